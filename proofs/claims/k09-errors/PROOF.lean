import PyProof.Rows.All
import Wide.All
import OpenK.AllK
import Wide.FinOn
import HandS.ForMost
import HandS.Exc
import HandS.TryOnly
import HandS.TryMany
import HandS.ExcOwn
import HandS.WordsExc
import HandS.ExcInit
import HandS.ExcField
import HandS.ExcIs
import HandS.ExcCtx
import HandS.IsInst
import HandS.Flow
import HandS.Style
import HandS.TupAny
import HandS.TupLe
import HandS.Conv
import HandS.Deep
import HandS.Walk
import HandS.Zip
import HandS.Wide
import HandS.SortOrd
import HandS.SortKw
import HandS.SortInts
import HandS.OwnEq
import HandS.DictComp
import HandS.ListItems
import HandS.FStr
import HandS.Small
import HandS.StrMore
import HandS.Defaults
import HandS.MakeKw
import HandS.RaiseMore
import HandS.Codes
import HandS.SuiteRaise
import HandS.Rev
import KE.GoesMore
import KE.GoesEnum
import KE.KExcSuper
import KE.KSuper
import HandS.CallLocal
import HandS.HeadHook2
import HandS.HeadEnd
import HandS.Head3
import PySem.Challenge.RW_hammerkept_k09_errors
set_option Elab.async false
set_option linter.all false
set_option maxRecDepth 100000
/-! Vl0: plain data D, values, the store, what stands for what (Rep), steps, what is wanted behind a value (Kont). -/
namespace Vl
open PySem PySem.Spec PyProof.Rows L2

/-- plain data, without addresses -/
inductive D where
  | non | bl (b : Bool) | int (i : Int) | str (x : Str) | scr (ns : List Int)
  | tup (l : List D) | lst (l : List D) | dct (l : List (Key × D)) | ins (C : Str) (fs : List (Str × D)) | glo (x : Str)
  deriving Inhabited
/-- an exception: its class, its fields -/
structure Exn where
  cls : Str
  fs : List (Str × D)
/-- a value: plain data, the k-th object of the store, or the exception that an except suite handles -/
inductive Val where
  | d (x : D) | obj (k : Nat) | exc (x : Exn)
  deriving Inhabited
/-- an object of the store -/
inductive MO where
  | lst (l : List D) | dct (l : List (Key × D)) | ins (C : Str) (fs : List (Str × Val)) | dead
abbrev Mem := List MO
/-- the module's names, the written part -/
structure Mg where
  m : Str → Option Value
  K : PySem.W.Frag
  hd : Option (Addr × Value × Option Addr)
/-- the exception that the context handles -/
def hdOf (X : Cx) : Option (Addr × Value × Option Addr) := match X.A.handled with
  | some (.ref a) => (X.pn.lookup a).map fun o => (a, o.cls, o.dict)
  | _ => none
abbrev gm (X : Cx) : Mg := ⟨X.mg, X.K, hdOf X⟩
theorem hdOf_none {X : Cx} (h : X.A.handled = none) : hdOf X = none := by
  unfold hdOf
  rw [h]
abbrev En := List (Option Val)
inductive R (α : Type) where
  | ok (a : α) (M : Mem) | err (x : Exn) (M : Mem) | bad
abbrev EF := En → Mem → R Val

def Live (M : Mem) (k : Nat) : Prop := ∃ o, M[k]? = some o ∧ o ≠ .dead
/-- where the store's objects stand, and what is hidden: lists that are being made -/
structure Rho where
  r : Nat → Addr
  z : Addr → Prop
instance : CoeFun Rho (fun _ => Nat → Addr) := ⟨Rho.r⟩
/-- the addresses that no data may stand at -/
def SM (ρ : Rho) (M : Mem) : Addr → Prop := fun a => ρ.z a ∨ ∃ k, Live M k ∧ ρ k = a

section
variable (mg : Mg) (S : Addr → Prop) (H : Hp)
mutual
def Rep (v : V) : D → Prop
  | .non => v = .non
  | .bl b => v = .bl b
  | .int i => v = .int i
  | .str x => v = .str x
  | .tup ds => ∃ a us, v = .ref a ∧ Rd H a (.tup us) ∧ ¬ S a ∧ RepL us ds
  | .scr ns => ∃ a, v = .ref a ∧ ((Rd H a (.lst (ns.map V.int)) ∧ ¬ S a) ∨ ∀ H, SqL mg.K H a (ns.map V.int))
  | .lst ds => ∃ a us, v = .ref a ∧ H a = some (.lst us) ∧ ¬ S a ∧ RepL us ds
  | .dct ps => ∃ a kvs, v = .ref a ∧ Rd H a (.dK kvs) ∧ ¬ S a ∧ RepP kvs ps
  | .ins C gs => ∃ a Ca dx fs, v = .ref a ∧ H a = some (.ins Ca dx fs) ∧ ¬ S a ∧ mg.m C = some (.ref Ca) ∧ RepF fs gs
  | .glo x => ∃ u, mg.m x = some u ∧ RelV v u
def RepL (us : List V) : List D → Prop
  | [] => us = []
  | d :: ds => ∃ u r, us = u :: r ∧ Rep u d ∧ RepL r ds
def RepP (us : List (Key × V)) : List (Key × D) → Prop
  | [] => us = []
  | (k, d) :: ds => ∃ u r, us = (k, u) :: r ∧ Rep u d ∧ RepP r ds
def RepF (us : List (Str × V)) : List (Str × D) → Prop
  | [] => us = []
  | (k, d) :: ds => ∃ u r, us = (k, u) :: r ∧ Rep u d ∧ RepF r ds
end
end

theorem rd_keep {S S' : Addr → Prop} {H H' : Hp} {a : Addr} {u : HO} (k : ∀ a o, H a = some o → ¬ S a → H' a = some o ∧ ¬ S' a) (h : Rd H a u) (n : ¬ S a) : Rd H' a u ∧ ¬ S' a := by
  rcases h with h | ⟨o, h⟩
  · exact ⟨.inl (k a _ h n).1, (k a _ h n).2⟩
  · exact ⟨.inr ⟨o, (k a _ h n).1⟩, (k a _ h n).2⟩

section
variable {mg : Mg} {S S' : Addr → Prop} {H H' : Hp} (k : ∀ a o, H a = some o → ¬ S a → H' a = some o ∧ ¬ S' a)
include k
mutual
theorem Rep.mono {v : V} : ∀ {d : D}, Rep mg S H v d → Rep mg S' H' v d
  | .non, h => h
  | .bl _, h => h
  | .int _, h => h
  | .str _, h => h
  | .tup ds, h => by
    obtain ⟨a, us, e, r, n, q⟩ := h
    exact ⟨a, us, e, (rd_keep k r n).1, (rd_keep k r n).2, RepL.mono q⟩
  | .scr ns, h => by
    obtain ⟨a, e, ⟨r, n⟩ | r⟩ := h
    · exact ⟨a, e, .inl (rd_keep k r n)⟩
    · exact ⟨a, e, .inr r⟩
  | .lst ds, h => by
    obtain ⟨a, us, e, r, n, q⟩ := h
    exact ⟨a, us, e, (k a _ r n).1, (k a _ r n).2, RepL.mono q⟩
  | .dct ds, h => by
    obtain ⟨a, us, e, r, n, q⟩ := h
    exact ⟨a, us, e, (rd_keep k r n).1, (rd_keep k r n).2, RepP.mono q⟩
  | .ins C gs, h => by
    obtain ⟨a, Ca, dx, fs, e, r, n, m, q⟩ := h
    exact ⟨a, Ca, dx, fs, e, (k a _ r n).1, (k a _ r n).2, m, RepF.mono q⟩
  | .glo x, h => h
theorem RepL.mono {us : List V} : ∀ {ds : List D}, RepL mg S H us ds → RepL mg S' H' us ds
  | [], h => h
  | d :: ds, h => by
    obtain ⟨u, r, e, h1, h2⟩ := h
    exact ⟨u, r, e, Rep.mono h1, RepL.mono h2⟩
theorem RepP.mono {us : List (Key × V)} : ∀ {ds : List (Key × D)}, RepP mg S H us ds → RepP mg S' H' us ds
  | [], h => h
  | (_, d) :: ds, h => by
    obtain ⟨u, r, e, h1, h2⟩ := h
    exact ⟨u, r, e, Rep.mono h1, RepP.mono h2⟩
theorem RepF.mono {us : List (Str × V)} : ∀ {ds : List (Str × D)}, RepF mg S H us ds → RepF mg S' H' us ds
  | [], h => h
  | (_, d) :: ds, h => by
    obtain ⟨u, r, e, h1, h2⟩ := h
    exact ⟨u, r, e, Rep.mono h1, RepF.mono h2⟩
end
end

section
variable (mg : Mg) (ρ : Rho) (M : Mem) (H : Hp)
def RepX (cls : Value) (dd : Option Addr) (x : Exn) : Prop := ∃ C, mg.m x.cls = some (.ref C) ∧ cls = .ref C ∧
  ((x.fs = [] ∧ dd = none) ∨ ∃ d fs, dd = some d ∧ H d = some (.xd fs) ∧ ¬ SM ρ M d ∧ RepF mg (SM ρ M) H fs x.fs)
/-- a value at the store -/
def RepV (u : V) : Val → Prop
  | .d x => Rep mg (SM ρ M) H u x
  | .obj k => u = .ref (ρ k) ∧ k < M.length
  | .exc x => ∃ a cls dd, mg.hd = some (a, cls, dd) ∧ u = .ref a ∧ RepX mg ρ M H cls dd x
/-- .. that an object may bear -/
def RepW (u : V) : Val → Prop
  | .d x => Rep mg (SM ρ M) H u x
  | .obj k => u = .ref (ρ k) ∧ k < M.length
  | .exc _ => False
def RepVs (us : List V) : List Val → Prop
  | [] => us = []
  | d :: ds => ∃ u r, us = u :: r ∧ RepV mg ρ M H u d ∧ RepVs r ds
def RepFV (us : List (Str × V)) : List (Str × Val) → Prop
  | [] => us = []
  | (k, d) :: ds => ∃ u r, us = (k, u) :: r ∧ RepW mg ρ M H u d ∧ RepFV r ds
def RepO (a : Addr) : MO → Prop
  | .lst ds => ∃ us, H a = some (.lst us) ∧ RepL mg (SM ρ M) H us ds
  | .dct ps => ∃ us, H a = some (.dK us) ∧ RepP mg (SM ρ M) H us ps
  | .ins C gs => ∃ Ca dx fs, H a = some (.ins Ca dx fs) ∧ mg.m C = some (.ref Ca) ∧ RepFV mg ρ M H fs gs
  | .dead => True
structure Gs : Prop where
  at_ : ∀ k o, M[k]? = some o → RepO mg ρ M H (ρ k) o
  inj : ∀ j k, Live M j → Live M k → ρ j = ρ k → j = k
  zin : ∀ a, ρ.z a → ∃ o, H a = some o
  zlv : ∀ k, Live M k → ¬ ρ.z (ρ k)
end
/-- what data and places lean on -/
structure Stw (ρ : Rho) (M : Mem) (H : Hp) (ρ' : Rho) (M' : Mem) (H' : Hp) : Prop where
  len : M.length ≤ M'.length
  rho : ∀ k, k < M.length → ρ' k = ρ k
  keep : ∀ a o, H a = some o → ¬ SM ρ M a → H' a = some o ∧ ¬ SM ρ' M' a
/-- a step -/
structure Stp (ρ : Rho) (M : Mem) (H : Hp) (ρ' : Rho) (M' : Mem) (H' : Hp) : Prop extends Stw ρ M H ρ' M' H' where
  zeq : ρ'.z = ρ.z
  zk : ∀ a o, ρ.z a → H a = some o → H' a = some o

section
variable {mg : Mg} {ρ ρ' ρ'' : Rho} {M M' M'' : Mem} {H H' H'' : Hp} {u : V} {v : Val}
theorem Stp.refl : Stp ρ M H ρ M H := ⟨⟨Nat.le_refl _, fun _ _ => rfl, fun _ _ h n => ⟨h, n⟩⟩, rfl, fun _ _ _ h => h⟩
theorem Stw.trans (a : Stw ρ M H ρ' M' H') (b : Stw ρ' M' H' ρ'' M'' H'') : Stw ρ M H ρ'' M'' H'' :=
  ⟨Nat.le_trans a.len b.len, fun k hk => (b.rho k (Nat.lt_of_lt_of_le hk a.len)).trans (a.rho k hk), fun x o h n => b.keep x o (a.keep x o h n).1 (a.keep x o h n).2⟩
theorem Stp.trans (a : Stp ρ M H ρ' M' H') (b : Stp ρ' M' H' ρ'' M'' H'') : Stp ρ M H ρ'' M'' H'' :=
  ⟨a.toStw.trans b.toStw, b.zeq.trans a.zeq, fun x o h e => b.zk x o (by rw [a.zeq]; exact h) (a.zk x o h e)⟩
theorem RepX.stw {cls : Value} {dd : Option Addr} {x : Exn} (s : Stw ρ M H ρ' M' H') (h : RepX mg ρ M H cls dd x) : RepX mg ρ' M' H' cls dd x := by
  obtain ⟨C, e1, e2, h⟩ := h
  exact ⟨C, e1, e2, h.imp id fun ⟨d, fs, a, b, c, e⟩ => ⟨d, fs, a, (s.keep d _ b c).1, (s.keep d _ b c).2, RepF.mono s.keep e⟩⟩
theorem RepV.stw (s : Stw ρ M H ρ' M' H') (h : RepV mg ρ M H u v) : RepV mg ρ' M' H' u v := by
  cases v with
  | d x => exact Rep.mono s.keep h
  | obj k => exact ⟨by rw [s.rho k h.2]; exact h.1, Nat.lt_of_lt_of_le h.2 s.len⟩
  | exc x =>
    obtain ⟨a, cls, dd, e1, e2, h⟩ := h
    exact ⟨a, cls, dd, e1, e2, h.stw s⟩
theorem RepW.stw (s : Stw ρ M H ρ' M' H') (h : RepW mg ρ M H u v) : RepW mg ρ' M' H' u v := by
  cases v with
  | d x => exact Rep.mono s.keep h
  | obj k => exact ⟨by rw [s.rho k h.2]; exact h.1, Nat.lt_of_lt_of_le h.2 s.len⟩
  | exc x => exact h
theorem RepW.toV (h : RepW mg ρ M H u v) : RepV mg ρ M H u v := by
  cases v with
  | d x => exact h
  | obj k => exact h
  | exc x => exact h.elim
def noX : Val → Bool
  | .exc _ => false
  | _ => true
theorem RepV.toW (h : RepV mg ρ M H u v) (n : noX v = true) : RepW mg ρ M H u v := by
  cases v with
  | d x => exact h
  | obj k => exact h
  | exc x => cases n
theorem RepV.step (s : Stp ρ M H ρ' M' H') (h : RepV mg ρ M H u v) : RepV mg ρ' M' H' u v := h.stw s.toStw
theorem RepVs.step (s : Stp ρ M H ρ' M' H') : ∀ {vs : List Val} {us : List V}, RepVs mg ρ M H us vs → RepVs mg ρ' M' H' us vs
  | [], _, h => h
  | v :: vs, _, h => by
    obtain ⟨u, r, e, h1, h2⟩ := h
    exact ⟨u, r, e, h1.step s, RepVs.step s h2⟩
theorem RepFV.step (s : Stp ρ M H ρ' M' H') : ∀ {vs : List (Str × Val)} {us : List (Str × V)}, RepFV mg ρ M H us vs → RepFV mg ρ' M' H' us vs
  | [], _, h => h
  | (_, v) :: vs, _, h => by
    obtain ⟨u, r, e, h1, h2⟩ := h
    exact ⟨u, r, e, h1.stw s.toStw, RepFV.step s h2⟩
theorem RepVs.length : ∀ {vs : List Val} {us : List V}, RepVs mg ρ M H us vs → us.length = vs.length
  | [], _, h => by cases h; rfl
  | v :: vs, _, h => by
    obtain ⟨u, r, rfl, h1, h2⟩ := h
    simp [RepVs.length h2]
theorem RepL.length {S : Addr → Prop} : ∀ {vs : List D} {us : List V}, RepL mg S H us vs → us.length = vs.length
  | [], _, h => by cases h; rfl
  | v :: vs, _, h => by
    obtain ⟨u, r, rfl, h1, h2⟩ := h
    simp [RepL.length h2]
end

/-- what is wanted behind a value: a step from the state that is known -/
def Kont (mg : Mg) (ρ : Rho) (M : Mem) (H : Hp) (r : R Val) (Q : VK) (E : XK) : Prop := match r with
  | .ok v M' => ∀ ρ' u H', Stp ρ M H ρ' M' H' → Gs mg ρ' M' H' → RepV mg ρ' M' H' u v → Q u H'
  | .err x M' => ∀ ρ' cls d H', Stp ρ M H ρ' M' H' → Gs mg ρ' M' H' → RepX mg ρ' M' H' cls d x → E cls d H'
  | .bad => False
def Konts (mg : Mg) (ρ : Rho) (M : Mem) (H : Hp) (r : R (List Val)) (Q : List V → Hp → Prop) (E : XK) : Prop := match r with
  | .ok v M' => ∀ ρ' u H', Stp ρ M H ρ' M' H' → Gs mg ρ' M' H' → RepVs mg ρ' M' H' u v → Q u H'
  | .err x M' => ∀ ρ' cls d H', Stp ρ M H ρ' M' H' → Gs mg ρ' M' H' → RepX mg ρ' M' H' cls d x → E cls d H'
  | .bad => False
/-- the slots and the store -/
structure Es (mg : Mg) (ρ : Rho) (env : En) (M : Mem) (σ : L2.St) (H : Hp) : Prop where
  gs : Gs mg ρ M H
  sl : ∀ (i : Nat) (v : Val), env[i]? = some (some v) → ∃ u, σ[i]? = some (some u) ∧ RepV mg ρ M H u v
  len : env.length = σ.length
theorem Es.step {mg : Mg} {ρ ρ' : Rho} {env : En} {M M' : Mem} {σ : L2.St} {H H' : Hp} (e : Es mg ρ env M σ H) (s : Stp ρ M H ρ' M' H') (g : Gs mg ρ' M' H') : Es mg ρ' env M' σ H' :=
  ⟨g, fun i v h => let ⟨u, a, b⟩ := e.sl i v h; ⟨u, a, b.step s⟩, e.len⟩

/-- a reading by a function of the slots' data and the store -/
def lift (mg : Mg) (W : WX) (f : EF) : TE := fun σ H Q => ∃ ρ env M, Es mg ρ env M σ H ∧ Kont mg ρ M H (f env M) Q (fun c d H' => W c d σ H')
def lifts (mg : Mg) (W : WX) (f : En → Mem → R (List Val)) : TA := fun σ H Q => ∃ ρ env M, Es mg ρ env M σ H ∧ Konts mg ρ M H (f env M) Q (fun c d H' => W c d σ H')
/-- an expression computes f -/
def VE (X : Cx) (W : WX) (e : Expr) (f : EF) : Prop := PE X e (lift (gm X) W f)
def VA (X : Cx) (W : WX) (es : List Expr) (f : En → Mem → R (List Val)) : Prop := PA X es (lifts (gm X) W f)

theorem pe_imp {X : Cx} {e : Expr} {t t' : TE} (h : PE X e t) (k : ∀ σ H Q, t' σ H Q → t σ H Q) : PE X e t' := ⟨fun pins s σ H Q I q => h.run pins s σ H Q I (k σ H Q q)⟩
theorem pa_imp {X : Cx} {e : List Expr} {t t' : TA} (h : PA X e t) (k : ∀ σ H Q, t' σ H Q → t σ H Q) : PA X e t' := ⟨fun pos pins s σ H Q I q => h.run pos pins s σ H Q I (k σ H Q q)⟩
theorem pt_imp {X : Cx} {e : Expr} {t t' : TT} (h : PT X e t) (k : ∀ σ H Q, t' σ H Q → t σ H Q) : PT X e t' := ⟨fun pins s σ H Q I q => h.run pins s σ H Q I (k σ H Q q)⟩
theorem ps_imp {X : Cx} {e : Stmt} {t t' : TS} (h : PS X e t) (k : ∀ D σ H, t' D σ H → t D σ H) : PS X e t' := ⟨fun pins s σ H D I q => h.run pins s σ H D I (k D σ H q)⟩
theorem pss_imp {X : Cx} {e : List Stmt} {t t' : TS} (h : PSs X e t) (k : ∀ D σ H, t' D σ H → t D σ H) : PSs X e t' := ⟨fun pins s σ H D I q => h.run pins s σ H D I (k D σ H q)⟩

/-- behind a step: what is wanted from the earlier state -/
theorem Kont.from {mg : Mg} {ρ ρ' : Rho} {M M' : Mem} {H H' : Hp} {r : R Val} {Q : VK} {E : XK} (s : Stp ρ M H ρ' M' H') (h : Kont mg ρ M H r Q E) : Kont mg ρ' M' H' r Q E := by
  cases r with
  | ok v M2 => exact fun ρ2 u H2 s2 g r => h ρ2 u H2 (s.trans s2) g r
  | err x M2 => exact fun ρ2 c d H2 s2 g r => h ρ2 c d H2 (s.trans s2) g r
  | bad => exact h
theorem Konts.from {mg : Mg} {ρ ρ' : Rho} {M M' : Mem} {H H' : Hp} {r : R (List Val)} {Q : List V → Hp → Prop} {E : XK} (s : Stp ρ M H ρ' M' H') (h : Konts mg ρ M H r Q E) : Konts mg ρ' M' H' r Q E := by
  cases r with
  | ok v M2 => exact fun ρ2 u H2 s2 g r => h ρ2 u H2 (s.trans s2) g r
  | err x M2 => exact fun ρ2 c d H2 s2 g r => h ρ2 c d H2 (s.trans s2) g r
  | bad => exact h
def rbind {α β : Type} (r : R α) (k : α → Mem → R β) : R β := match r with
  | .ok v M => k v M
  | .err x M => .err x M
  | .bad => .bad
@[simp] theorem rbind_ok {α β : Type} (a : α) (M : Mem) (k : α → Mem → R β) : rbind (.ok a M) k = k a M := rfl
@[simp] theorem rbind_err {α β : Type} (x : Exn) (M : Mem) (k : α → Mem → R β) : rbind (.err x M) k = .err x M := rfl
@[simp] theorem rbind_bad {α β : Type} (k : α → Mem → R β) : rbind (.bad) k = .bad := rfl
/-- a value, then what follows -/
theorem Kont.bind {mg : Mg} {ρ : Rho} {M : Mem} {H : Hp} {r : R Val} {k : Val → Mem → R Val} {Q : VK} {E : XK} (h : Kont mg ρ M H (rbind r k) Q E) :
    Kont mg ρ M H r (fun u H1 => ∃ ρ1 M1 v, Stp ρ M H ρ1 M1 H1 ∧ Gs mg ρ1 M1 H1 ∧ RepV mg ρ1 M1 H1 u v ∧ Kont mg ρ1 M1 H1 (k v M1) Q E) E := by
  cases r with
  | ok v M2 => exact fun ρ2 u H2 s2 g rv => ⟨ρ2, M2, v, s2, g, rv, h.from s2⟩
  | err x M2 => exact h
  | bad => exact h
theorem Konts.bind {mg : Mg} {ρ : Rho} {M : Mem} {H : Hp} {r : R (List Val)} {k : List Val → Mem → R Val} {Q : VK} {E : XK} (h : Kont mg ρ M H (rbind r k) Q E) :
    Konts mg ρ M H r (fun u H1 => ∃ ρ1 M1 v, Stp ρ M H ρ1 M1 H1 ∧ Gs mg ρ1 M1 H1 ∧ RepVs mg ρ1 M1 H1 u v ∧ Kont mg ρ1 M1 H1 (k v M1) Q E) E := by
  cases r with
  | ok v M2 => exact fun ρ2 u H2 s2 g rv => ⟨ρ2, M2, v, s2, g, rv, h.from s2⟩
  | err x M2 => exact h
  | bad => exact h
/-- room for texts, not for calls -/
structure Rm (k : Nat) (A : Around) : Prop where
  un : A.units + 16 * k + 200 < cLine
theorem Rm.of {k : Nat} {A : Around} (r : Room k A) : Rm k A := ⟨r.un⟩
theorem Rm.units {k : Nat} {A : Around} (r : Rm k A) : A.units + 64 < cLine := by have := r.un; omega
theorem Rm.units0 {k : Nat} {A : Around} (r : Rm k A) : A.units < cLine := by have := r.un; omega
end Vl
set_option Elab.async false
set_option linter.all false
set_option maxRecDepth 100000
/-! Vl1: the store's steps; names, constants, displays, operators. -/
namespace Vl
open PySem PySem.Spec PyProof.Rows L2

section
variable {mg : Mg} {ρ ρ' : Rho} {M M' : Mem} {H H' : Hp} {p : Addr} {o : MO} {ob : HO} {k : Nat}
theorem same_upd (h : H p = none) : Same H (upd H p ob) := fun b x e => by rw [upd_ne (ne_of_none e h)]; exact e
theorem RepO.same (s : Same H H') {a : Addr} (h : RepO mg ρ M H a o) : RepO mg ρ M H' a o := by
  have k : ∀ a o, H a = some o → ¬ SM ρ M a → H' a = some o ∧ ¬ SM ρ M a := fun a o e n => ⟨s a o e, n⟩
  cases o with
  | lst ds => obtain ⟨us, e, q⟩ := h; exact ⟨us, s _ _ e, RepL.mono k q⟩
  | dct ds => obtain ⟨us, e, q⟩ := h; exact ⟨us, s _ _ e, RepP.mono k q⟩
  | ins C gs => obtain ⟨Ca, dx, fs, e, m, q⟩ := h; exact ⟨Ca, dx, fs, s _ _ e, m, RepFV.step ⟨⟨Nat.le_refl _, fun _ _ => rfl, k⟩, rfl, fun a o _ e => s a o e⟩ q⟩
  | dead => trivial
theorem Gs.same (g : Gs mg ρ M H) (s : Same H H') : Gs mg ρ M H' ∧ Stp ρ M H ρ M H' :=
  ⟨⟨fun k o h => (g.at_ k o h).same s, g.inj, fun a h => let ⟨o, e⟩ := g.zin a h; ⟨o, s a o e⟩, g.zlv⟩, ⟨⟨Nat.le_refl _, fun _ _ => rfl, fun a o e n => ⟨s a o e, n⟩⟩, rfl, fun a o _ e => s a o e⟩⟩
theorem Gs.some_of (g : Gs mg ρ M H) (h : Live M k) : ∃ ob, H (ρ k) = some ob ∧ Mut (some ob) := by
  obtain ⟨o, e, n⟩ := h
  have q := g.at_ k o e
  cases o with
  | lst ds => obtain ⟨us, e, _⟩ := q; exact ⟨_, e, trivial⟩
  | dct ds => obtain ⟨us, e, _⟩ := q; exact ⟨_, e, trivial⟩
  | ins C gs => obtain ⟨Ca, dx, fs, e, _⟩ := q; exact ⟨_, e, trivial⟩
  | dead => exact absurd rfl n
theorem Gs.out (g : Gs mg ρ M H) (h : H p = none) : ¬ SM ρ M p := fun q => by
  rcases q with z | ⟨k, l, e⟩
  · obtain ⟨o, e⟩ := g.zin _ z
    rw [h] at e; cases e
  · obtain ⟨ob, q, _⟩ := g.some_of l
    rw [e, h] at q; cases q
/-- a new object that never changes -/
theorem Gs.alloc (g : Gs mg ρ M H) (h : H p = none) (ob : HO) : Stp ρ M H ρ M (upd H p ob) ∧ Gs mg ρ M (upd H p ob) ∧ ¬ SM ρ M p :=
  ⟨(g.same (same_upd h)).2, (g.same (same_upd h)).1, g.out h⟩
def rput (ρ : Rho) (n : Nat) (p : Addr) : Rho := ⟨fun k => if k = n then p else ρ k, ρ.z⟩
theorem rput_same {n : Nat} : rput ρ n p n = p := if_pos rfl
theorem rput_ne {n k : Nat} (h : k ≠ n) : rput ρ n p k = ρ k := if_neg h
theorem live_push {k : Nat} (h : Live (M ++ [o]) k) : (k < M.length ∧ Live M k) ∨ (k = M.length ∧ o ≠ .dead) := by
  obtain ⟨x, e, n⟩ := h
  by_cases hk : k < M.length
  · rw [List.getElem?_append_left hk] at e
    exact .inl ⟨hk, x, e, n⟩
  · rw [List.getElem?_append_right (by omega)] at e
    by_cases z : k = M.length
    · subst z
      simp at e
      subst e
      exact .inr ⟨rfl, n⟩
    · have : k - M.length ≠ 0 := by omega
      cases hd : k - M.length with
      | zero => omega
      | succ m => rw [hd] at e; simp at e
theorem push_keep (g : Gs mg ρ M H) (h : H p = none) (ob : HO) (o : MO) : ∀ a x, H a = some x → ¬ SM ρ M a → upd H p ob a = some x ∧ ¬ SM (rput ρ M.length p) (M ++ [o]) a := fun a x e n => by
  refine ⟨same_upd h a x e, fun zz => ?_⟩
  rcases zz with zz | ⟨k, l, q⟩
  · exact n (.inl zz)
  rcases live_push l with ⟨hk, l'⟩ | ⟨hk, _⟩
  · rw [rput_ne (by omega)] at q
    exact n (.inr ⟨k, l', q⟩)
  · rw [hk, rput_same] at q
    rw [q, e] at h; cases h
theorem push_step (g : Gs mg ρ M H) (h : H p = none) (ob : HO) (o : MO) : Stp ρ M H (rput ρ M.length p) (M ++ [o]) (upd H p ob) :=
  ⟨⟨by simp, fun k hk => rput_ne (by omega), push_keep g h ob o⟩, rfl, fun a x _ e => same_upd h a x e⟩
theorem RepO.step {ρ2 : Rho} {M2 : Mem} {H2 : Hp} (s : Stp ρ M H ρ2 M2 H2) {a : Addr} (he : ∀ x, H a = some x → H2 a = some x) (q : RepO mg ρ M H a o) : RepO mg ρ2 M2 H2 a o := by
  cases o with
  | lst ds => obtain ⟨us, e, q⟩ := q; exact ⟨us, he _ e, RepL.mono s.keep q⟩
  | dct ds => obtain ⟨us, e, q⟩ := q; exact ⟨us, he _ e, RepP.mono s.keep q⟩
  | ins C gs => obtain ⟨Ca, dx, fs, e, m, q⟩ := q; exact ⟨Ca, dx, fs, he _ e, m, RepFV.step s q⟩
  | dead => trivial
/-- a new object of the store -/
theorem Gs.push (g : Gs mg ρ M H) (h : H p = none) (hr : RepO mg (rput ρ M.length p) (M ++ [o]) (upd H p ob) p o) : Gs mg (rput ρ M.length p) (M ++ [o]) (upd H p ob) := by
  have st := push_step g h ob o
  refine ⟨fun k x e => ?_, fun j k lj lk q => ?_, fun a z => let ⟨x, e⟩ := g.zin a z; ⟨x, same_upd h a x e⟩, fun k l z => ?_⟩
  · by_cases hk : k < M.length
    · rw [List.getElem?_append_left hk] at e
      rw [rput_ne (by omega)]
      exact (g.at_ k x e).step st fun y z => same_upd h _ _ z
    · have hl : k < (M ++ [o]).length := (List.getElem?_eq_some_iff.mp e).1
      have z : k = M.length := by simp at hl; omega
      subst z
      have : x = o := by simpa using e.symm
      subst this
      rw [rput_same]; exact hr
  · rcases live_push lj with ⟨hj, lj'⟩ | ⟨hj, _⟩ <;> rcases live_push lk with ⟨hk, lk'⟩ | ⟨hk, _⟩
    · rw [rput_ne (by omega), rput_ne (by omega)] at q
      exact g.inj j k lj' lk' q
    · rw [rput_ne (by omega), hk, rput_same] at q
      obtain ⟨y, e, _⟩ := g.some_of lj'
      rw [q, h] at e; cases e
    · rw [rput_ne (k := k) (by omega), hj, rput_same] at q
      obtain ⟨y, e, _⟩ := g.some_of lk'
      rw [← q, h] at e; cases e
    · omega
  · rcases live_push l with ⟨hk, l'⟩ | ⟨hk, _⟩
    · rw [rput_ne (by omega)] at z
      exact g.zlv k l' z
    · rw [hk, rput_same] at z
      obtain ⟨x, e⟩ := g.zin _ z
      rw [h] at e; cases e
theorem live_set {k j : Nat} {o' : MO} (lk : Live M k) (h : Live (M.set k o') j) : Live M j := by
  obtain ⟨x, e, n⟩ := h
  by_cases z : k = j
  · rw [← z]; exact lk
  · rw [List.getElem?_set_ne z] at e
    exact ⟨x, e, n⟩
theorem write_step (g : Gs mg ρ M H) (lk : Live M k) (ob : HO) (o' : MO) : Stp ρ M H ρ (M.set k o') (upd H (ρ k) ob) := by
  refine ⟨⟨by simp, fun _ _ => rfl, fun a x e n => ⟨?_, fun zz => ?_⟩⟩, rfl, fun a x z e => ?_⟩
  · have : a ≠ ρ k := fun z => n (.inr ⟨k, lk, z.symm⟩)
    rw [upd_ne this]; exact e
  · rcases zz with zz | ⟨j, l, q⟩
    · exact n (.inl zz)
    · exact n (.inr ⟨j, live_set lk l, q⟩)
  · have : a ≠ ρ k := fun q => g.zlv k lk (by rw [← q]; exact z)
    rw [upd_ne this]; exact e
/-- an object of the store is changed -/
theorem Gs.write {o' : MO} (g : Gs mg ρ M H) (lk : Live M k) (hr : RepO mg ρ (M.set k o') (upd H (ρ k) ob) (ρ k) o') : Gs mg ρ (M.set k o') (upd H (ρ k) ob) := by
  have st := write_step g lk ob o'
  refine ⟨fun j x e => ?_, fun j i lj li q => g.inj j i (live_set lk lj) (live_set lk li) q, fun a z => ?_, fun j l z => g.zlv j (live_set lk l) z⟩
  rotate_left
  · obtain ⟨x, e⟩ := g.zin a z
    have : a ≠ ρ k := fun q => g.zlv k lk (by rw [← q]; exact z)
    exact ⟨x, by rw [upd_ne this]; exact e⟩
  by_cases z : k = j
  · subst z
    have hl : k < M.length := by
      obtain ⟨y, e', _⟩ := lk
      exact (List.getElem?_eq_some_iff.mp e').1
    rw [List.getElem?_set_self hl] at e
    cases e
    exact hr
  · rw [List.getElem?_set_ne z] at e
    by_cases hx : x = .dead
    · subst hx; trivial
    · refine (g.at_ j x e).step st fun y w => ?_
      have : ρ j ≠ ρ k := fun q => z (g.inj _ _ lk ⟨x, e, hx⟩ q.symm)
      rw [upd_ne this]; exact w
/-- an object of the store is given up: it never changes from here on -/
theorem kill_step (g : Gs mg ρ M H) (lk : Live M k) : Stp ρ M H ρ (M.set k .dead) H ∧ Gs mg ρ (M.set k .dead) H ∧ ¬ SM ρ (M.set k .dead) (ρ k) := by
  have hl : k < M.length := by
    obtain ⟨y, e', _⟩ := lk
    exact (List.getElem?_eq_some_iff.mp e').1
  have st : Stp ρ M H ρ (M.set k .dead) H := ⟨⟨by simp, fun _ _ => rfl, fun a x e n => ⟨e, fun zz => zz.elim (fun z => n (.inl z)) fun ⟨j, l, q⟩ => n (.inr ⟨j, live_set lk l, q⟩)⟩⟩, rfl, fun _ _ _ e => e⟩
  refine ⟨st, ⟨fun j x e => ?_, fun j i lj li q => g.inj j i (live_set lk lj) (live_set lk li) q, g.zin, fun j l z => g.zlv j (live_set lk l) z⟩, fun zz => zz.elim (fun z => g.zlv k lk z) fun ⟨j, l, q⟩ => ?_⟩
  · by_cases z : k = j
    · subst z
      rw [List.getElem?_set_self hl] at e
      cases e; trivial
    · rw [List.getElem?_set_ne z] at e
      exact (g.at_ j x e).step st fun _ w => w
  · have e := g.inj _ _ (live_set lk l) lk q
    subst e
    obtain ⟨x, e, n⟩ := l
    rw [List.getElem?_set_self hl] at e
    cases e; exact n rfl
end

theorem Kont.mono {mg : Mg} {ρ : Rho} {M : Mem} {H : Hp} {r : R Val} {Q Q' : VK} {E E' : XK} (h : Kont mg ρ M H r Q E) (k : ∀ u H, Q u H → Q' u H) (k' : ∀ c d H, E c d H → E' c d H) : Kont mg ρ M H r Q' E' := by
  cases r with
  | ok v M2 => exact fun ρ2 u H2 s2 g r => k _ _ (h ρ2 u H2 s2 g r)
  | err x M2 => exact fun ρ2 c d H2 s2 g r => k' _ _ _ (h ρ2 c d H2 s2 g r)
  | bad => exact h
theorem Konts.mono {mg : Mg} {ρ : Rho} {M : Mem} {H : Hp} {r : R (List Val)} {Q Q' : List V → Hp → Prop} {E E' : XK} (h : Konts mg ρ M H r Q E) (k : ∀ u H, Q u H → Q' u H) (k' : ∀ c d H, E c d H → E' c d H) : Konts mg ρ M H r Q' E' := by
  cases r with
  | ok v M2 => exact fun ρ2 u H2 s2 g r => k _ _ (h ρ2 u H2 s2 g r)
  | err x M2 => exact fun ρ2 c d H2 s2 g r => k' _ _ _ (h ρ2 c d H2 s2 g r)
  | bad => exact h
section
variable {X : Cx} {W : WX} {e a b : Expr} {es : List Expr} {f g : EF} {fs : En → Mem → R (List Val)} {pos : Pos}
/-- the value of e, then k: what lift says of both in a row -/
theorem lift_bind {k : En → Val → Mem → R Val} {mg : Mg} {σ : L2.St} {H : Hp} {Q : VK} {Q' : VK}
    (h : lift mg W (fun e M => rbind (f e M) (k e)) σ H Q)
    (hk : ∀ ρ env M H1 u v, Es mg ρ env M σ H1 → RepV mg ρ M H1 u v → Kont mg ρ M H1 (k env v M) Q (fun c d H' => W c d σ H') → Q' u H1) : lift mg W f σ H Q' := by
  obtain ⟨ρ, env, M, es, h⟩ := h
  exact ⟨ρ, env, M, es, h.bind.mono (fun u H1 ⟨ρ1, M1, v, s, g, r, q⟩ => hk ρ1 env M1 H1 u v (es.step s g) r q) fun _ _ _ z => z⟩
theorem lifts_bind {k : En → List Val → Mem → R Val} {mg : Mg} {σ : L2.St} {H : Hp} {Q : VK} {Q' : List V → Hp → Prop}
    (h : lift mg W (fun e M => rbind (fs e M) (k e)) σ H Q)
    (hk : ∀ ρ env M H1 u v, Es mg ρ env M σ H1 → RepVs mg ρ M H1 u v → Kont mg ρ M H1 (k env v M) Q (fun c d H' => W c d σ H') → Q' u H1) : lifts mg W fs σ H Q' := by
  obtain ⟨ρ, env, M, es, h⟩ := h
  exact ⟨ρ, env, M, es, (Konts.bind h).mono (fun u H1 ⟨ρ1, M1, v, s, g, r, q⟩ => hk ρ1 env M1 H1 u v (es.step s g) r q) fun _ _ _ z => z⟩

/-! ### names, constants -/
def fVar (i : Nat) : EF := fun e M => match e[i]? with
  | some (some v) => .ok v M
  | _ => .bad
def fC (v : D) : EF := fun _ M => .ok (.d v) M
theorem ve_var (i : Nat) {x : Str} {pos : Pos} (hN : X.N[i]? = some x := by rfl) (hv : Vis X.env.scope x := by first | exact Or.inl rfl | exact Or.inr (Or.inl rfl) | exact Or.inr (Or.inr rfl)) (hd : (x == ("__debug__" : Str)) = false := by decide)
    (hcd : (x == ("__classdict__" : Str)) = false := by decide) : VE X W (.Name x pos) (fVar i) := pe_imp (pe_var hN hv hd hcd) fun σ H Q h => by
  obtain ⟨ρ, env, M, es, h⟩ := h
  unfold fVar at h
  split at h
  · rename_i v e
    obtain ⟨u, e1, r⟩ := es.sl i v e
    exact ⟨u, e1, h ρ u H .refl es.gs r⟩
  · exact h.elim
theorem lift_C {mg : Mg} {v : V} {d : D} {σ : L2.St} {H : Hp} {Q : VK} (hr : ∀ S H, Rep mg S H v d) (h : lift mg W (fC d) σ H Q) : Q v H := by
  obtain ⟨ρ, env, M, es, h⟩ := h
  exact h ρ v H .refl es.gs (hr _ _)
theorem ve_int {i : Int} {j : Nat} {pos : Pos} : VE X W (.Constant (.int i) j pos) (fC (.int i)) := pe_imp pe_int fun σ H Q h => lift_C (d := .int i) (fun _ _ => rfl) h
theorem ve_bl {i : Bool} {j : Nat} {pos : Pos} : VE X W (.Constant (.bool i) j pos) (fC (.bl i)) := pe_imp pe_bl fun σ H Q h => lift_C (d := .bl i) (fun _ _ => rfl) h
theorem ve_non {j : Nat} {pos : Pos} : VE X W (.Constant .none j pos) (fC .non) := pe_imp pe_non fun σ H Q h => lift_C (d := .non) (fun _ _ => rfl) h
theorem ve_str {i : Str} {j : Nat} {pos : Pos} : VE X W (.Constant (.str i) j pos) (fC (.str i)) := pe_imp pe_str fun σ H Q h => lift_C (d := .str i) (fun _ _ => rfl) h
/-- a module's int or text -/
theorem ve_gint {x : Str} {i : Int} {u : Value} {pos : Pos} (hg : Gl X x) (hm : X.mg x = some u) (r : RelV (.int i) u) (hd : (x == ("__debug__" : Str)) = false := by decide) : VE X W (.Name x pos) (fC (.int i)) :=
  pe_imp (pe_glob hg hm r hd) fun σ H Q h => lift_C (d := .int i) (fun _ _ => rfl) h
theorem ve_gstr {x : Str} {i : Str} {u : Value} {pos : Pos} (hg : Gl X x) (hm : X.mg x = some u) (r : RelV (.str i) u) (hd : (x == ("__debug__" : Str)) = false := by decide) : VE X W (.Name x pos) (fC (.str i)) :=
  pe_imp (pe_glob hg hm r hd) fun σ H Q h => lift_C (d := .str i) (fun _ _ => rfl) h
/-- a def or a class of the module, as a value -/
theorem ve_glo {x : Str} {a : Addr} {pos : Pos} (hg : Gl X x) (hm : X.mg x = some (.ref a)) (hd : (x == ("__debug__" : Str)) = false := by decide) : VE X W (.Name x pos) (fC (.glo x)) :=
  pe_imp (pe_glob (v := .ref a) hg hm rfl hd) fun σ H Q h => by
    obtain ⟨ρ, env, M, es, h⟩ := h
    exact h ρ (.ref a) H .refl es.gs ⟨_, hm, rfl⟩

/-! ### several expressions -/
def fNil : En → Mem → R (List Val) := fun _ M => .ok [] M
def fCons (f : EF) (fs : En → Mem → R (List Val)) : En → Mem → R (List Val) := fun e M => rbind (f e M) fun v M1 => rbind (fs e M1) fun vs M2 => .ok (v :: vs) M2
theorem va_nil : VA X W [] fNil := pa_imp pa_nil fun σ H Q ⟨ρ, env, M, es, h⟩ => h ρ [] H .refl es.gs rfl
theorem va_cons (hf : VE X W e f) (hfs : VA X W es fs) (hs : starEach (e :: es) X.env = (false, eval e X.env) :: starEach es X.env := by rfl) : VA X W (e :: es) (fCons f fs) := pa_imp (pa_cons hf hfs hs) fun σ H Q h => by
  obtain ⟨ρ, env, M, es, h⟩ := h
  refine ⟨ρ, env, M, es, ?_⟩
  unfold fCons at h
  revert h
  cases hv : f env M with
  | bad => exact fun h => h
  | err x M1 => exact fun h => h
  | ok v M1 =>
    intro h ρ1 u H1 s1 g1 r1
    have h1 := Konts.from s1 h
    refine ⟨ρ1, env, M1, es.step s1 g1, ?_⟩
    simp only [rbind_ok] at h1
    revert h1
    cases hvs : fs env M1 with
    | bad => exact fun h => h
    | err x M1 => exact fun h => h
    | ok vs M2 => exact fun h1 ρ2 us H2 s2 g2 r2 => h1 ρ2 (u :: us) H2 s2 g2 ⟨u, us, rfl, r1.step s2, r2⟩

/-! ### displays -/
def dsOf : List Val → Option (List D)
  | [] => some []
  | .d x :: r => (dsOf r).map (x :: ·)
  | .obj _ :: _ => none
  | .exc _ :: _ => none
theorem repL_of {mg : Mg} {ρ : Rho} {M : Mem} {H : Hp} : ∀ {vs : List Val} {us : List V} {ds : List D}, RepVs mg ρ M H us vs → dsOf vs = some ds → RepL mg (SM ρ M) H us ds
  | [], _, _, h, e => by cases e; exact h
  | .obj _ :: _, _, _, _, e => by cases e
  | .exc _ :: _, _, _, _, e => by cases e
  | .d x :: r, _, _, h, e => by
    simp only [dsOf, Option.map_eq_some_iff] at e
    obtain ⟨ds, e, rfl⟩ := e
    obtain ⟨u, us, rfl, h1, h2⟩ := h
    exact ⟨u, us, rfl, h1, repL_of h2 e⟩
theorem dsOf_length : ∀ {vs : List Val} {ds : List D}, dsOf vs = some ds → ds.length = vs.length
  | [], _, e => by cases e; rfl
  | .obj _ :: _, _, e => by cases e
  | .exc _ :: _, _, e => by cases e
  | .d x :: r, _, e => by
    simp only [dsOf, Option.map_eq_some_iff] at e
    obtain ⟨ds, e, rfl⟩ := e
    simp [dsOf_length e]
/-- the greatest length of a list -/
abbrev big : Nat := 16777216
theorem big_le {n : Nat} (h : n ≤ big) : n ≤ sizeLine := by rw [sizeLine_eq]; exact h
theorem big_lt {n : Nat} (h : n < big) : n < sizeLine := by rw [sizeLine_eq]; exact h
def mkTup (vs : List Val) (M : Mem) : R Val := match dsOf vs with
  | some ds => if ds.length ≤ big then .ok (.d (.tup ds)) M else .bad
  | none => .bad
def mkLst (vs : List Val) (M : Mem) : R Val := match dsOf vs with
  | some ds => if ds.length ≤ big then .ok (.d (.lst ds)) M else .bad
  | none => .bad
/-- .. as an object of the store -/
def mkObj (vs : List Val) (M : Mem) : R Val := match dsOf vs with
  | some ds => if ds.length ≤ big then .ok (.obj M.length) (M ++ [.lst ds]) else .bad
  | none => .bad
def fTup (fs : En → Mem → R (List Val)) : EF := fun e M => rbind (fs e M) mkTup
def fLst (fs : En → Mem → R (List Val)) : EF := fun e M => rbind (fs e M) mkLst
def fObj (fs : En → Mem → R (List Val)) : EF := fun e M => rbind (fs e M) mkObj
section
variable {mg : Mg} {ρ : Rho} {M : Mem} {H : Hp} {us : List V} {ds : List D} {Q : VK} {E : XK}
theorem kont_tup (g : Gs mg ρ M H) (r : RepL mg (SM ρ M) H us ds) (q : Kont mg ρ M H (.ok (.d (.tup ds)) M) Q E) : ∀ p, H p = none → Q (.ref p) (upd H p (.tup us)) := fun p hp => by
  obtain ⟨s1, g1, n1⟩ := g.alloc hp (.tup us)
  exact q ρ _ _ s1 g1 ⟨p, us, rfl, .inl upd_same, n1, RepL.mono s1.keep r⟩
theorem kont_lst (g : Gs mg ρ M H) (r : RepL mg (SM ρ M) H us ds) (q : Kont mg ρ M H (.ok (.d (.lst ds)) M) Q E) : ∀ p, H p = none → Q (.ref p) (upd H p (.lst us)) := fun p hp => by
  obtain ⟨s1, g1, n1⟩ := g.alloc hp (.lst us)
  exact q ρ _ _ s1 g1 ⟨p, us, rfl, upd_same, n1, RepL.mono s1.keep r⟩
theorem kont_obj (g : Gs mg ρ M H) (r : RepL mg (SM ρ M) H us ds) (q : Kont mg ρ M H (.ok (.obj M.length) (M ++ [.lst ds])) Q E) : ∀ p, H p = none → Q (.ref p) (upd H p (.lst us)) := fun p hp => by
  have s1 := push_step g hp (.lst us) (.lst ds)
  exact q _ _ _ s1 (g.push hp ⟨us, upd_same, RepL.mono s1.keep r⟩) ⟨by rw [rput_same], by simp⟩
end
theorem ve_tup {k : Nat} (h : VA X W es fs) : VE X W (.Tuple es k pos) (fTup fs) := pe_imp (pe_tup h) fun σ H Q h => by
  refine lifts_bind h fun ρ env M H1 us vs es r q => ?_
  unfold mkTup at q
  split at q
  · rename_i ds e
    split at q
    · rename_i hl
      have rl := repL_of r e
      exact ⟨by rw [RepL.length rl]; exact big_le hl, kont_tup es.gs rl q⟩
    · exact q.elim
  · exact q.elim
theorem ve_lst (h : VA X W es fs) : VE X W (.List es pos) (fLst fs) := pe_imp (pe_lst h) fun σ H Q h => by
  refine lifts_bind h fun ρ env M H1 us vs es r q => ?_
  unfold mkLst at q
  split at q
  · rename_i ds e
    split at q
    · rename_i hl
      have rl := repL_of r e
      exact ⟨by rw [RepL.length rl]; exact big_le hl, kont_lst es.gs rl q⟩
    · exact q.elim
  · exact q.elim
theorem ve_obj (h : VA X W es fs) : VE X W (.List es pos) (fObj fs) := pe_imp (pe_lst h) fun σ H Q h => by
  refine lifts_bind h fun ρ env M H1 us vs es r q => ?_
  unfold mkObj at q
  split at q
  · rename_i ds e
    split at q
    · rename_i hl
      have rl := repL_of r e
      exact ⟨by rw [RepL.length rl]; exact big_le hl, kont_obj es.gs rl q⟩
    · exact q.elim
  · exact q.elim
end
end Vl
set_option Elab.async false
set_option linter.all false
set_option maxRecDepth 100000
/-! Vl2: operators, comparisons. -/
namespace Vl
open PySem PySem.Spec PyProof.Rows L2

/-! ### what a value is, as a sequence -/
/-- a plain list: its items -/
def plL (M : Mem) : Val → Option (List D)
  | .d (.lst l) => some l
  | .obj k => match M[k]? with
    | some (.lst l) => some l
    | _ => none
  | _ => none
/-- a list that is read -/
def rdL (M : Mem) : Val → Option (List D)
  | .d (.scr ns) => some (ns.map D.int)
  | v => plL M v
def rdT : Val → Option (List D)
  | .d (.tup l) => some l
  | _ => none
/-- a list or a tuple that is read -/
def rdS (M : Mem) (v : Val) : Option (List D) := match rdT v with
  | some l => some l
  | none => rdL M v
def rdD (M : Mem) : Val → Option (List (Key × D))
  | .d (.dct l) => some l
  | .obj k => match M[k]? with
    | some (.dct l) => some l
    | _ => none
  | _ => none
section
variable {mg : Mg} {ρ : Rho} {M : Mem} {H : Hp} {u : V} {v : Val} {ds : List D}
theorem repL_ints {S : Addr → Prop} : ∀ ns : List Int, RepL mg S H (ns.map V.int) (ns.map D.int)
  | [] => rfl
  | n :: ns => ⟨_, _, rfl, rfl, repL_ints ns⟩
theorem plL_rep (g : Gs mg ρ M H) (r : RepV mg ρ M H u v) (e : plL M v = some ds) : ∃ a us, u = .ref a ∧ H a = some (.lst us) ∧ RepL mg (SM ρ M) H us ds := by
  cases v with
  | d x =>
    cases x <;> try (cases e; done)
    cases e
    obtain ⟨a, us, e, h, _, q⟩ := r
    exact ⟨a, us, e, h, q⟩
  | obj k =>
    unfold plL at e
    dsimp only at e
    split at e
    · rename_i l el
      cases e
      obtain ⟨us, h, q⟩ := g.at_ k _ el
      exact ⟨_, us, r.1, h, q⟩
    · cases e
  | exc x => cases e
theorem rdL_rep (g : Gs mg ρ M H) (r : RepV mg ρ M H u v) (e : rdL M v = some ds) : ∃ a us, u = .ref a ∧ SqL mg.K H a us ∧ RepL mg (SM ρ M) H us ds := by
  unfold rdL at e
  split at e
  · rename_i ns
    cases e
    obtain ⟨a, e, h⟩ := r
    refine ⟨a, _, e, ?_, repL_ints ns⟩
    rcases h with ⟨h, _⟩ | h
    · exact .inl h
    · exact h H
  · obtain ⟨a, us, e, h, q⟩ := plL_rep g r e
    exact ⟨a, us, e, .inl (.inl h), q⟩
theorem rdT_rep (r : RepV mg ρ M H u v) (e : rdT v = some ds) : ∃ a us, u = .ref a ∧ SqT mg.K H a us ∧ RepL mg (SM ρ M) H us ds := by
  unfold rdT at e
  split at e
  · cases e
    obtain ⟨a, us, e, h, _, q⟩ := r
    exact ⟨a, us, e, .inl h, q⟩
  · cases e
theorem rdS_rep (g : Gs mg ρ M H) (r : RepV mg ρ M H u v) (e : rdS M v = some ds) : ∃ a us, u = .ref a ∧ (SqL mg.K H a us ∨ SqT mg.K H a us) ∧ RepL mg (SM ρ M) H us ds := by
  unfold rdS at e
  split at e
  · rename_i l el
    cases e
    obtain ⟨a, us, e, h, q⟩ := rdT_rep r el
    exact ⟨a, us, e, .inr h, q⟩
  · obtain ⟨a, us, e, h, q⟩ := rdL_rep g r e
    exact ⟨a, us, e, .inl h, q⟩
theorem rdD_rep {ps : List (Key × D)} (g : Gs mg ρ M H) (r : RepV mg ρ M H u v) (e : rdD M v = some ps) : ∃ a us, u = .ref a ∧ Rd H a (.dK us) ∧ RepP mg (SM ρ M) H us ps := by
  cases v with
  | d x =>
    cases x <;> try (cases e; done)
    cases e
    obtain ⟨a, us, e, h, _, q⟩ := r
    exact ⟨a, us, e, h, q⟩
  | obj k =>
    unfold rdD at e
    dsimp only at e
    split at e
    · rename_i l el
      cases e
      obtain ⟨us, h, q⟩ := g.at_ k _ el
      exact ⟨_, us, r.1, .inl h, q⟩
    · cases e
  | exc x => cases e
theorem RepL.append {S : Addr → Prop} : ∀ {xs ys : List D} {us ws : List V}, RepL mg S H us xs → RepL mg S H ws ys → RepL mg S H (us ++ ws) (xs ++ ys)
  | [], _, _, _, h, q => by cases h; exact q
  | x :: xs, _, _, _, h, q => by
    obtain ⟨u, r, rfl, h1, h2⟩ := h
    exact ⟨u, _, rfl, h1, RepL.append h2 q⟩
theorem RepL.get {S : Addr → Prop} : ∀ {xs : List D} {us : List V} {i : Nat} {x : D}, RepL mg S H us xs → xs[i]? = some x → ∃ u, us[i]? = some u ∧ Rep mg S H u x
  | [], _, _, _, _, e => by simp at e
  | x :: xs, _, 0, y, h, e => by
    obtain ⟨u, r, rfl, h1, h2⟩ := h
    simp at e; subst e
    exact ⟨u, rfl, h1⟩
  | x :: xs, _, i + 1, y, h, e => by
    obtain ⟨u, r, rfl, h1, h2⟩ := h
    obtain ⟨w, a, b⟩ := RepL.get (i := i) h2 (by simpa using e)
    exact ⟨w, by simpa using a, b⟩
theorem RepL.drop {S : Addr → Prop} : ∀ {xs : List D} {us : List V} (n : Nat), RepL mg S H us xs → RepL mg S H (us.drop n) (xs.drop n)
  | _, _, 0, h => h
  | [], _, _ + 1, h => by cases h; rfl
  | x :: xs, _, n + 1, h => by
    obtain ⟨u, r, rfl, h1, h2⟩ := h
    exact RepL.drop n h2
theorem RepL.take {S : Addr → Prop} : ∀ {xs : List D} {us : List V} (n : Nat), RepL mg S H us xs → RepL mg S H (us.take n) (xs.take n)
  | _, _, 0, h => by simp only [List.take_zero]; rfl
  | [], _, _ + 1, h => by cases h; rfl
  | x :: xs, _, n + 1, h => by
    obtain ⟨u, r, rfl, h1, h2⟩ := h
    exact ⟨u, _, rfl, h1, RepL.take n h2⟩
theorem RepL.reverse {S : Addr → Prop} : ∀ {xs : List D} {us : List V}, RepL mg S H us xs → RepL mg S H us.reverse xs.reverse
  | [], _, h => by cases h; rfl
  | x :: xs, _, h => by
    obtain ⟨u, r, rfl, h1, h2⟩ := h
    rw [List.reverse_cons, List.reverse_cons]
    exact RepL.append (RepL.reverse h2) ⟨u, [], rfl, h1, rfl⟩
theorem RepL.set {S : Addr → Prop} {w : V} {y : D} (hy : Rep mg S H w y) : ∀ {xs : List D} {us : List V} (n : Nat), RepL mg S H us xs → RepL mg S H (us.set n w) (xs.set n y)
  | [], _, _, h => by cases h; rfl
  | x :: xs, _, 0, h => by
    obtain ⟨u, r, rfl, h1, h2⟩ := h
    exact ⟨w, r, rfl, hy, h2⟩
  | x :: xs, _, n + 1, h => by
    obtain ⟨u, r, rfl, h1, h2⟩ := h
    exact ⟨u, _, rfl, h1, RepL.set hy n h2⟩
end

/-! ### two operands -/
def OpK (mg : Mg) (op : Val → Val → Mem → R Val) (r : R2) : Prop := ∀ (ρ : Rho) (M : Mem) (H : Hp) (x y : V) (v w : Val) (Q : VK) (E : XK),
  Gs mg ρ M H → RepV mg ρ M H x v → RepV mg ρ M H y w → Kont mg ρ M H (op v w M) Q E → r x y H Q
def fOp (op : Val → Val → Mem → R Val) (f g : EF) : EF := fun e M => rbind (f e M) fun v M1 => rbind (g e M1) fun w M2 => op v w M2
section
variable {X : Cx} {W : WX} {e a b : Expr} {es : List Expr} {f g : EF} {pos : Pos} {r : R2} {op : Val → Val → Mem → R Val}
theorem lift_op (k : OpK (gm X) op r) : ∀ σ H Q, lift (gm X) W (fOp op f g) σ H Q → tOp r (lift (gm X) W f) (lift (gm X) W g) σ H Q := fun σ H Q h => by
  refine lift_bind h fun ρ env M H1 u v es r q => ⟨ρ, env, M, es, (Kont.bind q).mono (fun u2 H2 hq => ?_) fun _ _ _ z => z⟩
  obtain ⟨ρ2, M2, w, s, g2, rw', q2⟩ := hq
  exact k ρ2 M2 H2 u u2 v w Q _ g2 (r.step s) rw' q2
theorem ve_op {o : Operator} (ho : OpR X (binaryOp o) r) (k : OpK (gm X) op r) (ha : VE X W a f) (hb : VE X W b g) : VE X W (.BinOp a o b pos) (fOp op f g) := pe_imp (pe_op ho ha hb) (lift_op k)
theorem ve_cmp {o : CmpOp} (ho : OpR X (compareOp o) r) (k : OpK (gm X) op r) (ha : VE X W a f) (hb : VE X W b g) (hm : behindInMarks o b = false) : VE X W (.Compare a [o] [b] pos) (fOp op f g) := pe_imp (pe_cmpR ho ha hb hm) (lift_op k)
theorem ve_ix {hs : PlainIx b} (ho : IxR X r) (k : OpK (gm X) op r) (ha : VE X W a f) (hb : VE X W b g) : VE X W (.Subscript a b pos) (fOp op f g) := pe_imp (pe_ix ho ha hb hs) (lift_op k)

/-! ### arithmetic -/
def opAdd (v w : Val) (M : Mem) : R Val := match v, w with
  | .d (.int i), .d (.int j) => .ok (.d (.int (i + j))) M
  | .d (.str x), .d (.str y) => if x.length + y.length ≤ big then .ok (.d (.str (x ++ y))) M else .bad
  | .d (.tup xs), .d (.tup ys) => if xs.length + ys.length ≤ big then .ok (.d (.tup (xs ++ ys))) M else .bad
  | v, w => match plL M v, plL M w with
    | some xs, some ys => if xs.length + ys.length ≤ big then .ok (.d (.lst (xs ++ ys))) M else .bad
    | _, _ => .bad
abbrev rAddAll (X : Cx) : R2 := fun x y H Q => (rI0 fun i j => .int (i + j)) x y H Q ∨ (fun x y H Q => (∃ i j, x = .str i ∧ y = .str j ∧ i.length + j.length ≤ sizeLine ∧ Q (.str (i ++ j)) H) ∨
  (fun x y H Q => rCatA X.K x y H Q ∨ rCat x y H Q) x y H Q) x y H Q
theorem op_addAll : OpR X (binaryOp .Add) (rAddAll X) := OpR.or op_add (OpR.or op_add_str (OpR.or op_catA op_cat))
theorem k_add : OpK (gm X) opAdd (rAddAll X) := fun ρ M H x y v w Q E g rx ry q => by
  unfold opAdd at q
  split at q
  · exact .inl ⟨_, _, rx, ry, q ρ _ H .refl g rfl⟩
  · split at q
    · rename_i i j hl
      exact .inr (.inl ⟨i, j, rx, ry, big_le hl, q ρ _ H .refl g rfl⟩)
    · exact q.elim
  · split at q
    · rename_i xs ys hl
      refine .inr (.inr (.inl ?_))
      obtain ⟨p1, us, e1, h1, n1, l1⟩ := id rx
      obtain ⟨p2, ws, e2, h2, n2, l2⟩ := id ry
      have e3 := RepL.length l1
      have e4 := RepL.length l2
      refine ⟨p1, p2, us, ws, e1, e2, .inl h1, .inl h2, by rw [e3, e4]; exact big_le hl, fun z => ?_, fun _ z => ?_, fun _ _ => ?_⟩
      · subst z
        cases xs with
        | nil => rw [← e2]; exact q ρ _ H .refl g ry
        | cons _ _ => simp at e3
      · subst z
        cases ys with
        | nil => rw [← e1]; exact q ρ _ H .refl g (by rw [List.append_nil]; exact rx)
        | cons _ _ => simp at e4
      · exact kont_tup g (RepL.append l1 l2) q
    · exact q.elim
  · split at q
    · rename_i xs ys ex ey
      split at q
      · rename_i hl
        obtain ⟨p1, us, e1, h1, l1⟩ := plL_rep g rx ex
        obtain ⟨p2, ws, e2, h2, l2⟩ := plL_rep g ry ey
        exact .inr (.inr (.inr ⟨p1, p2, us, ws, e1, e2, h1, h2, by rw [RepL.length l1, RepL.length l2]; exact big_le hl, kont_lst g (RepL.append l1 l2) q⟩))
      · exact q.elim
    · exact q.elim
theorem ve_add (ha : VE X W a f) (hb : VE X W b g) : VE X W (.BinOp a .Add b pos) (fOp opAdd f g) := ve_op op_addAll k_add ha hb
def opI (C : Int → Int → Prop) [∀ i j, Decidable (C i j)] (h : Int → Int → Int) (v w : Val) (M : Mem) : R Val := match v, w with
  | .d (.int i), .d (.int j) => if C i j then .ok (.d (.int (h i j))) M else .bad
  | _, _ => .bad
theorem k_opI {C : Int → Int → Prop} [∀ i j, Decidable (C i j)] {h : Int → Int → Int} : OpK (gm X) (opI C h) (rI C fun i j => .int (h i j)) := fun ρ M H x y v w Q E g rx ry q => by
  unfold opI at q
  split at q
  · split at q
    · rename_i c
      exact ⟨_, _, rx, ry, c, q ρ _ H .refl g rfl⟩
    · exact q.elim
  · exact q.elim
abbrev cTrue (_ _ : Int) : Prop := True
abbrev opSub := opI cTrue fun i j => i - j
instance : ∀ i j, Decidable (CMul i j) := fun i j => by unfold CMul; exact inferInstance
instance : ∀ i j, Decidable (CDiv i j) := fun i j => by unfold CDiv; exact inferInstance
instance : ∀ i j, Decidable (CPow i j) := fun i j => by unfold CPow; exact inferInstance
abbrev opFdiv := opI CDiv fun i j => i / j
abbrev opMod := opI (fun _ j => 0 < j) fun i j => i % j
abbrev opPow := opI CPow fun i j => i ^ j.toNat
theorem ve_sub (ha : VE X W a f) (hb : VE X W b g) : VE X W (.BinOp a .Sub b pos) (fOp opSub f g) := ve_op op_sub (fun ρ M H x y v w Q E g rx ry q => by
  obtain ⟨i, j, e1, e2, _, q⟩ := k_opI (X := X) ρ M H x y v w Q E g rx ry q
  exact ⟨i, j, e1, e2, q⟩) ha hb
theorem ve_fdiv (ha : VE X W a f) (hb : VE X W b g) : VE X W (.BinOp a .FloorDiv b pos) (fOp opFdiv f g) := ve_op op_fdiv k_opI ha hb
theorem ve_mod (ha : VE X W a f) (hb : VE X W b g) : VE X W (.BinOp a .Mod b pos) (fOp opMod f g) := ve_op op_mod k_opI ha hb
theorem ve_pow (ha : VE X W a f) (hb : VE X W b g) : VE X W (.BinOp a .Pow b pos) (fOp opPow f g) := ve_op op_pow k_opI ha hb
/-- ints; a list n times -/
def opMul (v w : Val) (M : Mem) : R Val := match v, w with
  | .d (.int i), .d (.int j) => if CMul i j then .ok (.d (.int (i * j))) M else .bad
  | v, .d (.int k) => match plL M v with
    | some xs => if -(2 ^ 63) ≤ k ∧ k < 2 ^ 63 ∧ xs.length * k.toNat ≤ big then .ok (.d (.lst (List.replicate k.toNat xs).flatten)) M else .bad
    | none => .bad
  | _, _ => .bad
theorem repL_rep {mg : Mg} {S : Addr → Prop} {H : Hp} {us : List V} {xs : List D} (r : RepL mg S H us xs) : ∀ n : Nat, RepL mg S H (List.replicate n us).flatten (List.replicate n xs).flatten
  | 0 => rfl
  | n + 1 => by
    rw [List.replicate_succ, List.replicate_succ, List.flatten_cons, List.flatten_cons]
    exact r.append (repL_rep r n)
theorem k_mul : OpK (gm X) opMul (fun x y H Q => (rI CMul fun i j => .int (i * j)) x y H Q ∨ rRep x y H Q) := fun ρ M H x y v w Q E g rx ry q => by
  unfold opMul at q
  split at q
  · split at q
    · rename_i c
      exact .inl ⟨_, _, rx, ry, c, q ρ _ H .refl g rfl⟩
    · exact q.elim
  · split at q
    · rename_i xs ex
      split at q
      · rename_i hl
        obtain ⟨p1, us, e1, h1, l1⟩ := plL_rep g rx ex
        exact .inr ⟨p1, _, us, e1, ry, h1, hl.1, hl.2.1, by rw [RepL.length l1]; exact big_le hl.2.2, kont_lst g (repL_rep l1 _) q⟩
      · exact q.elim
    · exact q.elim
  · exact q.elim
theorem ve_mul (ha : VE X W a f) (hb : VE X W b g) : VE X W (.BinOp a .Mult b pos) (fOp opMul f g) := ve_op (OpR.or op_mul op_rep) k_mul ha hb
def fNeg (f : EF) : EF := fun e M => rbind (f e M) fun v M1 => match v with
  | .d (.int i) => .ok (.d (.int (-i))) M1
  | _ => .bad
theorem ve_neg (ha : VE X W a f) : VE X W (.UnaryOp .USub a pos) (fNeg f) := pe_imp (pe_un un_neg ha) fun σ H Q h => by
  refine lift_bind h fun ρ env M H1 u v es r q => ?_
  split at q
  · exact ⟨_, r, q ρ _ H1 .refl es.gs rfl⟩
  · exact q.elim
end
end Vl
set_option Elab.async false
set_option linter.all false
set_option maxRecDepth 100000
/-! Vl3: ==, <, in, is; tests; and, or, not; if-expressions; subscripts and slices. -/
namespace Vl
open PySem PySem.Spec PyProof.Rows L2

/-! ### == -/
mutual
def toPy : D → PyData
  | .non => .none
  | .bl b => .bool b
  | .int i => .int i
  | .str x => .str x
  | .scr ns => .list (ns.map PyData.int)
  | .lst l => .list (toPys l)
  | .tup l => .tuple (toPys l)
  | .dct _ => .dict []
  | .ins _ _ => .dict []
  | .glo _ => .dict []
def toPys : List D → List PyData
  | [] => []
  | x :: r => toPy x :: toPys r
end
theorem toPys_eq : ∀ l : List D, toPys l = l.map toPy
  | [] => rfl
  | x :: r => by rw [toPys, toPys_eq r]; rfl
def pyOf (M : Mem) : Val → PyData
  | .d x => toPy x
  | .obj k => match M[k]? with
    | some (.lst l) => .list (toPys l)
    | _ => .dict []
  | .exc _ => .dict []
theorem canLay_cons {x : PyData} {xs : List PyData} (h : PyData.canLayAll0 (x :: xs) = true) : x.canLay0 = true ∧ PyData.canLayAll0 xs = true := by
  simpa [PyData.canLayAll0] using h
section
variable {mg : Mg} {S : Addr → Prop} {H : Hp}
theorem dpAll_ints {K : PySem.W.Frag} : ∀ ns : List Int, DpAll K H (ns.map V.int) (ns.map PyData.int)
  | [] => .nil
  | n :: ns => .cons (.int n) (dpAll_ints ns)
mutual
theorem dp_of {v : V} : ∀ {d : D}, Rep mg S H v d → (toPy d).canLay0 = true → Dp mg.K H v (toPy d)
  | .non, h, _ => by cases h; exact .non
  | .bl b, h, _ => by cases h; exact .bl b
  | .int b, h, _ => by cases h; exact .int b
  | .str b, h, _ => by cases h; exact .str b
  | .scr ns, h, _ => by
    obtain ⟨a, rfl, ⟨r, n⟩ | r⟩ := h
    · exact .lst (.inl r) (dpAll_ints ns)
    · exact .lst (r H) (dpAll_ints ns)
  | .lst l, h, c => by
    obtain ⟨a, us, rfl, r, n, q⟩ := h
    have c' : PyData.canLayAll0 (toPys l) = true := by simpa [toPy, PyData.canLay0] using c
    exact .lst (.inl (.inl r)) (dpAll_of q c')
  | .tup l, h, c => by
    obtain ⟨a, us, rfl, r, n, q⟩ := h
    have c' : PyData.canLayAll0 (toPys l) = true := by simpa [toPy, PyData.canLay0] using c
    exact .tup (.inl r) (dpAll_of q c')
  | .dct _, _, c => by simp [toPy, PyData.canLay0] at c
  | .ins _ _, _, c => by simp [toPy, PyData.canLay0] at c
  | .glo _, _, c => by simp [toPy, PyData.canLay0] at c
theorem dpAll_of {us : List V} : ∀ {l : List D}, RepL mg S H us l → PyData.canLayAll0 (toPys l) = true → DpAll mg.K H us (toPys l)
  | [], h, _ => by cases h; exact .nil
  | x :: r, h, c => by
    obtain ⟨u, ws, rfl, h1, h2⟩ := h
    have c' := canLay_cons (show PyData.canLayAll0 (toPy x :: toPys r) = true from c)
    exact .cons (dp_of h1 c'.1) (dpAll_of h2 c'.2)
end
end
theorem dp_pyOf {mg : Mg} {ρ : Rho} {M : Mem} {H : Hp} {u : V} {v : Val} (g : Gs mg ρ M H) (r : RepV mg ρ M H u v) (c : (pyOf M v).canLay0 = true) : Dp mg.K H u (pyOf M v) := by
  cases v with
  | exc x => simp [pyOf, PyData.canLay0] at c
  | d x => exact dp_of r c
  | obj k =>
    unfold pyOf at c ⊢
    dsimp only at c ⊢
    split
    · rename_i l el
      rw [el] at c
      obtain ⟨us, h, q⟩ := g.at_ k _ el
      rw [r.1]
      exact .lst (.inl (.inl h)) (dpAll_of q (by simpa [PyData.canLay0] using c))
    · rename_i hn
      split at c
      · rename_i l el; exact absurd el (hn l)
      · simp [PyData.canLay0] at c
def opEq (v w : Val) (M : Mem) : R Val := if SeqAt.shaped (pyOf M v) = true ∧ SeqAt.shaped (pyOf M w) = true then .ok (.d (.bl (PyData.eqv (pyOf M v) (pyOf M w)))) M else .bad
def opNe (v w : Val) (M : Mem) : R Val := if SeqAt.shaped (pyOf M v) = true ∧ SeqAt.shaped (pyOf M w) = true then .ok (.d (.bl (!PyData.eqv (pyOf M v) (pyOf M w)))) M else .bad
theorem canLay_of_shaped {d : PyData} (h : SeqAt.shaped d = true) : d.canLay0 = true := (Bool.and_eq_true_iff.mp h).1
section
variable {X : Cx} {W : WX} {e a b : Expr} {es : List Expr} {f g : EF} {pos : Pos} {r : R2} {op : Val → Val → Mem → R Val} {k : Nat}
theorem k_eq : OpK (gm X) opEq (rEqD X.K) := fun ρ M H x y v w Q E g rx ry q => by
  unfold opEq at q
  split at q
  · rename_i c
    exact ⟨_, _, dp_pyOf g rx (canLay_of_shaped c.1), dp_pyOf g ry (canLay_of_shaped c.2), c.1, c.2, q ρ _ H .refl g rfl⟩
  · exact q.elim
theorem k_ne : OpK (gm X) opNe (rNeD X.K) := fun ρ M H x y v w Q E g rx ry q => by
  unfold opNe at q
  split at q
  · rename_i c
    exact ⟨_, _, dp_pyOf g rx (canLay_of_shaped c.1), dp_pyOf g ry (canLay_of_shaped c.2), c.1, c.2, q ρ _ H .refl g rfl⟩
  · exact q.elim
theorem ve_eq (hr : Rm k X.A) (ha : VE X W a f) (hb : VE X W b g) (hm : behindInMarks .Eq b = false := by exact nomark _) : VE X W (.Compare a [.Eq] [b] pos) (fOp opEq f g) := ve_cmp (op_eqD hr.units) k_eq ha hb hm
theorem ve_ne (hr : Rm k X.A) (ha : VE X W a f) (hb : VE X W b g) (hm : behindInMarks .NotEq b = false := by exact nomark _) : VE X W (.Compare a [.NotEq] [b] pos) (fOp opNe f g) := ve_cmp (op_neD hr.units) k_ne ha hb hm

/-! ### order -/
def intsOf : List D → Option (List Int)
  | [] => some []
  | .int i :: r => (intsOf r).map (i :: ·)
  | _ :: _ => none
theorem intsOf_rep {mg : Mg} {S : Addr → Prop} {H : Hp} : ∀ {l : List D} {us : List V} {ns : List Int}, RepL mg S H us l → intsOf l = some ns → us = ns.map V.int
  | [], _, _, h, e => by cases e; exact h
  | x :: r, _, _, h, e => by
    cases x <;> try (simp [intsOf] at e; done)
    simp only [intsOf, Option.map_eq_some_iff] at e
    obtain ⟨ns, e, rfl⟩ := e
    obtain ⟨u, ws, rfl, h1, h2⟩ := h
    cases h1
    rw [intsOf_rep h2 e]; rfl
def opLt (v w : Val) (M : Mem) : R Val := match v, w with
  | .d (.int i), .d (.int j) => .ok (.d (.bl (decide (i < j)))) M
  | .d (.tup xs), .d (.tup ys) => match intsOf xs, intsOf ys with
    | some ns, some ms => .ok (.d (.bl (HT.lexLt ns ms))) M
    | _, _ => .bad
  | _, _ => .bad
theorem k_lt : OpK (gm X) opLt (fun x y H Q => (rI0 fun i j => .bl (decide (i < j))) x y H Q ∨ rLtT X.K x y H Q) := fun ρ M H x y v w Q E g rx ry q => by
  unfold opLt at q
  split at q
  · exact .inl ⟨_, _, rx, ry, q ρ _ H .refl g rfl⟩
  · split at q
    · rename_i ns ms ex ey
      obtain ⟨p1, us, e1, h1, l1⟩ := rdT_rep rx rfl
      obtain ⟨p2, ws, e2, h2, l2⟩ := rdT_rep ry rfl
      have e3 := intsOf_rep l1 ex
      have e4 := intsOf_rep l2 ey
      subst e3; subst e4
      exact .inr ⟨p1, p2, ns, ms, e1, e2, h1, h2, q ρ _ H .refl g rfl⟩
    · exact q.elim
  · exact q.elim
def opB (h : Int → Int → Bool) (v w : Val) (M : Mem) : R Val := match v, w with
  | .d (.int i), .d (.int j) => .ok (.d (.bl (h i j))) M
  | _, _ => .bad
theorem k_opB {h : Int → Int → Bool} : OpK (gm X) (opB h) (rI0 fun i j => .bl (h i j)) := fun ρ M H x y v w Q E g rx ry q => by
  unfold opB at q
  split at q
  · exact ⟨_, _, rx, ry, q ρ _ H .refl g rfl⟩
  · exact q.elim
abbrev opLe := opB fun i j => decide (i ≤ j)
abbrev opGt := opB fun i j => decide (j < i)
abbrev opGe := opB fun i j => decide (j ≤ i)
theorem ve_lt (hr : Rm k X.A) (ha : VE X W a f) (hb : VE X W b g) (hm : behindInMarks .Lt b = false := by exact nomark _) : VE X W (.Compare a [.Lt] [b] pos) (fOp opLt f g) := ve_cmp (OpR.or op_lt (op_ltT hr.units0)) k_lt ha hb hm
theorem ve_le (ha : VE X W a f) (hb : VE X W b g) (hm : behindInMarks .LtE b = false := by exact nomark _) : VE X W (.Compare a [.LtE] [b] pos) (fOp opLe f g) := ve_cmp op_le k_opB ha hb hm
theorem ve_gt (ha : VE X W a f) (hb : VE X W b g) (hm : behindInMarks .Gt b = false := by exact nomark _) : VE X W (.Compare a [.Gt] [b] pos) (fOp opGt f g) := ve_cmp op_gt k_opB ha hb hm
theorem ve_ge (ha : VE X W a f) (hb : VE X W b g) (hm : behindInMarks .GtE b = false := by exact nomark _) : VE X W (.Compare a [.GtE] [b] pos) (fOp opGe f g) := ve_cmp op_ge k_opB ha hb hm

/-! ### is -/
def isN : Val → Option Bool
  | .d .non => some true
  | .d (.glo _) => none
  | _ => some false
def fIsN (neg : Bool) (f : EF) : EF := fun e M => rbind (f e M) fun v M1 => match isN v with
  | some b => .ok (.d (.bl (if neg then !b else b))) M1
  | none => .bad
theorem rep_non {mg : Mg} {ρ : Rho} {M : Mem} {H : Hp} {u : V} {v : Val} {b : Bool} (r : RepV mg ρ M H u v) (hg : isN v = some b) : decide (u = .non) = b := by
  cases v with
  | obj k => obtain ⟨rfl, _⟩ := r; cases hg; rfl
  | exc x => obtain ⟨a, _, _, _, rfl, _⟩ := r; cases hg; rfl
  | d x =>
    cases x with
    | non => cases r; cases hg; rfl
    | bl b => cases r; cases hg; rfl
    | int b => cases r; cases hg; rfl
    | str b => cases r; cases hg; rfl
    | scr ns => obtain ⟨a, rfl, _⟩ := r; cases hg; rfl
    | lst l => obtain ⟨a, us, rfl, _⟩ := r; cases hg; rfl
    | tup l => obtain ⟨a, us, rfl, _⟩ := r; cases hg; rfl
    | dct l => obtain ⟨a, us, rfl, _⟩ := r; cases hg; rfl
    | ins C l => obtain ⟨a, Ca, dx, us, rfl, _⟩ := r; cases hg; rfl
    | glo x => cases hg
theorem ve_isN {j : Nat} {pos' : Pos} (ha : VE X W a f) : VE X W (.Compare a [.Is] [.Constant .none j pos'] pos) (fIsN false f) := pe_imp (pe_cmp (pc_isN ha)) fun σ H Q h => by
  refine lift_bind h fun ρ env M H1 u v es r q => ?_
  split at q
  · rename_i b e
    rw [rep_non r e]
    exact q ρ _ H1 .refl es.gs rfl
  · exact q.elim
theorem ve_notN {j : Nat} {pos' : Pos} (ha : VE X W a f) : VE X W (.Compare a [.IsNot] [.Constant .none j pos'] pos) (fIsN true f) := pe_imp (pe_cmp (pc_notN ha)) fun σ H Q h => by
  refine lift_bind h fun ρ env M H1 u v es r q => ?_
  split at q
  · rename_i b e
    rw [rep_non r e]
    exact q ρ _ H1 .refl es.gs rfl
  · exact q.elim
def fIsB (neg : Bool) (f g : EF) : EF := fOp (fun v w M => match v, w with
  | .d (.bl b), .d (.bl c) => .ok (.d (.bl (if neg then !decide (b = c) else decide (b = c)))) M
  | _, _ => .bad) f g
theorem ve_isB (ha : VE X W a f) (hb : VE X W b g) (hm : behindInMarks .Is b = false := by exact nomark _) : VE X W (.Compare a [.Is] [b] pos) (fIsB false f g) := ve_cmp op_is_bl (fun ρ M H x y v w Q E g rx ry q => by
  split at q
  · exact ⟨_, _, rx, ry, q ρ _ H .refl g rfl⟩
  · exact q.elim) ha hb hm
theorem ve_notB (ha : VE X W a f) (hb : VE X W b g) (hm : behindInMarks .IsNot b = false := by exact nomark _) : VE X W (.Compare a [.IsNot] [b] pos) (fIsB true f g) := ve_cmp op_isnot_bl (fun ρ M H x y v w Q E g rx ry q => by
  split at q
  · exact ⟨_, _, rx, ry, q ρ _ H .refl g rfl⟩
  · exact q.elim) ha hb hm
end
end Vl
set_option Elab.async false
set_option linter.all false
set_option maxRecDepth 100000
/-! Vl4: tests; and, or, not; if-expressions; in; subscripts and slices. -/
namespace Vl
open PySem PySem.Spec PyProof.Rows L2

abbrev BF := En → Mem → R Bool
def Kontb (mg : Mg) (ρ : Rho) (M : Mem) (H : Hp) (r : R Bool) (Q : Bool → Hp → Prop) (E : XK) : Prop := match r with
  | .ok v M' => ∀ ρ' H', Stp ρ M H ρ' M' H' → Gs mg ρ' M' H' → Q v H'
  | .err x M' => ∀ ρ' cls d H', Stp ρ M H ρ' M' H' → Gs mg ρ' M' H' → RepX mg ρ' M' H' cls d x → E cls d H'
  | .bad => False
def liftb (mg : Mg) (W : WX) (f : BF) : TT := fun σ H Q => ∃ ρ env M, Es mg ρ env M σ H ∧ Kontb mg ρ M H (f env M) Q (fun c d H' => W c d σ H')
def VT (X : Cx) (W : WX) (e : Expr) (f : BF) : Prop := PT X e (liftb (gm X) W f)
def VW (X : Cx) (W : WX) (e : Expr) (f : BF) : Prop := PW X e (liftb (gm X) W f)
def VC (X : Cx) (W : WX) (o : CmpOp) (a b : Expr) (f : EF) : Prop := PC X o a b (lift (gm X) W f)
theorem pc_imp {X : Cx} {o : CmpOp} {a b : Expr} {t t' : TE} (h : PC X o a b t) (k : ∀ σ H Q, t' σ H Q → t σ H Q) : PC X o a b t' := ⟨fun pins s σ H Q I q => h.run pins s σ H Q I (k σ H Q q)⟩
theorem pw_imp {X : Cx} {e : Expr} {t t' : TT} (h : PW X e t) (k : ∀ σ H Q, t' σ H Q → t σ H Q) : PW X e t' := ⟨fun wh pins s σ H Q I q => h.run wh pins s σ H Q I (k σ H Q q)⟩
theorem pc_op {X : Cx} {op : CmpOp} {a b : Expr} {ta tb : TE} {r : R2} (ho : OpR X (compareOp op) r) (ha : PE X a ta) (hb : PE X b tb) : PC X op a b (tOp r ta tb) := by
  refine ⟨fun pins s σ H Q I h => ?_⟩
  exact bin ha hb I h fun v u s2 x y H2 I2 rx ry q => ho pins s2 σ H2 x y v u Q I2 rx ry q
section
variable {mg : Mg} {ρ ρ' : Rho} {M M' : Mem} {H H' : Hp}
theorem Kontb.from {r : R Bool} {Q : Bool → Hp → Prop} {E : XK} (s : Stp ρ M H ρ' M' H') (h : Kontb mg ρ M H r Q E) : Kontb mg ρ' M' H' r Q E := by
  cases r with
  | ok v M2 => exact fun ρ2 H2 s2 g => h ρ2 H2 (s.trans s2) g
  | err x M2 => exact fun ρ2 c d H2 s2 g r => h ρ2 c d H2 (s.trans s2) g r
  | bad => exact h
theorem Kontb.mono {r : R Bool} {Q Q' : Bool → Hp → Prop} {E E' : XK} (h : Kontb mg ρ M H r Q E) (k : ∀ u H, Q u H → Q' u H) (k' : ∀ c d H, E c d H → E' c d H) : Kontb mg ρ M H r Q' E' := by
  cases r with
  | ok v M2 => exact fun ρ2 H2 s2 g => k _ _ (h ρ2 H2 s2 g)
  | err x M2 => exact fun ρ2 c d H2 s2 g r => k' _ _ _ (h ρ2 c d H2 s2 g r)
  | bad => exact h
/-- a value, then a truth -/
theorem Kont.bindb {r : R Val} {k : Val → Mem → R Bool} {Q : Bool → Hp → Prop} {E : XK} (h : Kontb mg ρ M H (rbind r k) Q E) :
    Kont mg ρ M H r (fun u H1 => ∃ ρ1 M1 v, Stp ρ M H ρ1 M1 H1 ∧ Gs mg ρ1 M1 H1 ∧ RepV mg ρ1 M1 H1 u v ∧ Kontb mg ρ1 M1 H1 (k v M1) Q E) E := by
  cases r with
  | ok v M2 => exact fun ρ2 u H2 s2 g rv => ⟨ρ2, M2, v, s2, g, rv, h.from s2⟩
  | err x M2 => exact h
  | bad => exact h
theorem Kontb.bind {r : R Bool} {k : Bool → Mem → R Val} {Q : VK} {E : XK} (h : Kont mg ρ M H (rbind r k) Q E) :
    Kontb mg ρ M H r (fun b H1 => ∃ ρ1 M1, Stp ρ M H ρ1 M1 H1 ∧ Gs mg ρ1 M1 H1 ∧ Kont mg ρ1 M1 H1 (k b M1) Q E) E := by
  cases r with
  | ok v M2 => exact fun ρ2 H2 s2 g => ⟨ρ2, M2, s2, g, h.from s2⟩
  | err x M2 => exact h
  | bad => exact h
theorem Kontb.bindb {r : R Bool} {k : Bool → Mem → R Bool} {Q : Bool → Hp → Prop} {E : XK} (h : Kontb mg ρ M H (rbind r k) Q E) :
    Kontb mg ρ M H r (fun b H1 => ∃ ρ1 M1, Stp ρ M H ρ1 M1 H1 ∧ Gs mg ρ1 M1 H1 ∧ Kontb mg ρ1 M1 H1 (k b M1) Q E) E := by
  cases r with
  | ok v M2 => exact fun ρ2 H2 s2 g => ⟨ρ2, M2, s2, g, h.from s2⟩
  | err x M2 => exact h
  | bad => exact h
end
/-- truth of a value -/
def tru (M : Mem) : Val → Option Bool
  | .d .non => some false
  | .d (.bl b) => some b
  | .d (.int i) => some (i != 0)
  | .d (.str x) => if x.length ≤ big then some ((x.length : Int) != 0) else none
  | v => match rdS M v with
    | some l => some (!l.isEmpty)
    | none => match v with
      | .obj _ => (rdD M v).map fun l => !l.isEmpty
      | _ => none
theorem isEmpty_rep {mg : Mg} {S : Addr → Prop} {H : Hp} {us : List V} {l : List D} (r : RepL mg S H us l) : us.isEmpty = l.isEmpty := by
  have e := RepL.length r
  cases us <;> cases l <;> first | rfl | simp at e
theorem isEmpty_repP {mg : Mg} {S : Addr → Prop} {H : Hp} : ∀ {l : List (Key × D)} {us : List (Key × V)}, RepP mg S H us l → us.isEmpty = l.isEmpty
  | [], _, h => by cases h; rfl
  | (k, x) :: r, _, h => by obtain ⟨u, ws, rfl, _⟩ := h; rfl
theorem tru_rep {mg : Mg} {ρ : Rho} {M : Mem} {H : Hp} {u : V} {v : Val} {b : Bool} (g : Gs mg ρ M H) (r : RepV mg ρ M H u v) (e : tru M v = some b) : TruV mg.K u H b := by
  unfold tru at e
  split at e
  · cases r; cases e; rfl
  · cases r; cases e; rfl
  · cases r; cases e; rfl
  · split at e
    · rename_i hl
      cases r; cases e
      exact ⟨big_le hl, rfl⟩
    · cases e
  · split at e
    · rename_i l el
      cases e
      obtain ⟨a, us, rfl, h | h, q⟩ := rdS_rep g r el
      · exact .inl ⟨us, h, by rw [isEmpty_rep q]⟩
      · exact .inr (.inl ⟨us, h, by rw [isEmpty_rep q]⟩)
    · split at e
      · rename_i k _ _ _ _ _ 
        simp only [Option.map_eq_some_iff] at e
        obtain ⟨l, el, rfl⟩ := e
        unfold rdD at el
        dsimp only at el
        split at el
        · rename_i ps ep
          cases el
          obtain ⟨us, h, q⟩ := g.at_ k _ ep
          rw [r.1]
          exact .inr (.inr ⟨us, h, by rw [isEmpty_repP q]⟩)
        · cases el
      · cases e
section
variable {X : Cx} {W : WX} {e a b c : Expr} {es rest : List Expr} {f g h : EF} {p q : BF} {pos : Pos} {r r' : R2} {op op' : Val → Val → Mem → R Val} {k : Nat} {o o' : CmpOp}
theorem ve_vc (hc : VC X W o a b f) (h1 : behindInMarks o b = false := by first | exact nobehind _ (by decide) (by decide) | rfl) : VE X W (.Compare a [o] [b] pos) f := pe_cmp hc h1
def asB (f : EF) : BF := fun e M => rbind (f e M) fun v M1 => match v with
  | .d (.bl b) => .ok b M1
  | _ => .bad
theorem liftb_asB : ∀ σ H Q, liftb (gm X) W (asB f) σ H Q → lift (gm X) W f σ H (fun x H1 => ∃ c, x = .bl c ∧ Q c H1) := fun σ H Q ⟨ρ, env, M, es, h⟩ =>
  ⟨ρ, env, M, es, (Kont.bindb h).mono (fun u H1 ⟨ρ1, M1, v, s1, g1, r, q⟩ => by
    split at q
    · exact ⟨_, r, q ρ1 H1 .refl g1⟩
    · exact q.elim) fun _ _ _ z => z⟩
theorem vt_vc (hc : VC X W o a b f) (h1 : behindInMarks o b = false := by first | exact nobehind _ (by decide) (by decide) | rfl) : VT X W (.Compare a [o] [b] pos) (asB f) := pt_imp (pt_cmp hc h1) liftb_asB
/-- any value, by its truth -/
def asT (f : EF) : BF := fun e M => rbind (f e M) fun v M1 => match tru M1 v with
  | some b => .ok b M1
  | none => .bad
theorem vt_val (hv : VE X W a f) (he : ∀ whole, isTrue a X.env whole = (do let v ← whole; standAt a.pos; holding [v] (truthy v)) := by intro _; rfl) : VT X W a (asT f) := pt_imp (pt_truth hv he) fun σ H Q ⟨ρ, env, M, es, h⟩ =>
  ⟨ρ, env, M, es, (Kont.bindb h).mono (fun u H1 ⟨ρ1, M1, v, s1, g1, r, q⟩ => by
    split at q
    · rename_i b eb
      exact ⟨b, tru_rep g1 r eb, q ρ1 H1 .refl g1⟩
    · exact q.elim) fun _ _ _ z => z⟩

/-! ### comparisons -/
theorem vc_op (ho : OpR X (compareOp o) r) (k : OpK (gm X) op r) (ha : VE X W a f) (hb : VE X W b g) : VC X W o a b (fOp op f g) := pc_imp (pc_op ho ha hb) (lift_op k)
theorem vc_eq (hr : Rm k X.A) (ha : VE X W a f) (hb : VE X W b g) : VC X W .Eq a b (fOp opEq f g) := vc_op (op_eqD hr.units) k_eq ha hb
theorem vc_ne (hr : Rm k X.A) (ha : VE X W a f) (hb : VE X W b g) : VC X W .NotEq a b (fOp opNe f g) := vc_op (op_neD hr.units) k_ne ha hb
theorem vc_lt (hr : Rm k X.A) (ha : VE X W a f) (hb : VE X W b g) : VC X W .Lt a b (fOp opLt f g) := vc_op (OpR.or op_lt (op_ltT hr.units0)) k_lt ha hb
theorem vc_le (ha : VE X W a f) (hb : VE X W b g) : VC X W .LtE a b (fOp opLe f g) := vc_op op_le k_opB ha hb
theorem vc_gt (ha : VE X W a f) (hb : VE X W b g) : VC X W .Gt a b (fOp opGt f g) := vc_op op_gt k_opB ha hb
theorem vc_ge (ha : VE X W a f) (hb : VE X W b g) : VC X W .GtE a b (fOp opGe f g) := vc_op op_ge k_opB ha hb
theorem vc_isN {j : Nat} {pos' : Pos} (ha : VE X W a f) : VC X W .Is a (.Constant .none j pos') (fIsN false f) := pc_imp (pc_isN ha) fun σ H Q h => by
  refine lift_bind h fun ρ env M H1 u v es r q => ?_
  split at q
  · rename_i b e
    rw [rep_non r e]
    exact q ρ _ H1 .refl es.gs rfl
  · exact q.elim
theorem vc_notN {j : Nat} {pos' : Pos} (ha : VE X W a f) : VC X W .IsNot a (.Constant .none j pos') (fIsN true f) := pc_imp (pc_notN ha) fun σ H Q h => by
  refine lift_bind h fun ρ env M H1 u v es r q => ?_
  split at q
  · rename_i b e
    rw [rep_non r e]
    exact q ρ _ H1 .refl es.gs rfl
  · exact q.elim
def opIsB (neg : Bool) (v w : Val) (M : Mem) : R Val := match v, w with
  | .d (.bl b), .d (.bl c) => .ok (.d (.bl (if neg then !decide (b = c) else decide (b = c)))) M
  | _, _ => .bad
theorem vc_isB (ha : VE X W a f) (hb : VE X W b g) : VC X W .Is a b (fOp (opIsB false) f g) := vc_op op_is_bl (fun ρ M H x y v w Q E g rx ry q => by
  unfold opIsB at q
  split at q
  · exact ⟨_, _, rx, ry, q ρ _ H .refl g rfl⟩
  · exact q.elim) ha hb
theorem vc_notB (ha : VE X W a f) (hb : VE X W b g) : VC X W .IsNot a b (fOp (opIsB true) f g) := vc_op op_isnot_bl (fun ρ M H x y v w Q E g rx ry q => by
  unfold opIsB at q
  split at q
  · exact ⟨_, _, rx, ry, q ρ _ H .refl g rfl⟩
  · exact q.elim) ha hb
/-- a < b < c -/
def fChain (op op' : Val → Val → Mem → R Val) (f g h : EF) : EF := fun e M => rbind (f e M) fun v M1 => rbind (g e M1) fun w M2 => rbind (op v w M2) fun z M3 => match z with
  | .d (.bl true) => rbind (h e M3) fun y M4 => op' w y M4
  | .d (.bl false) => .ok (.d (.bl false)) M3
  | _ => .bad
theorem lift_chain {op op' : Val → Val → Mem → R Val} (k1 : OpK (gm X) op r) (k2 : OpK (gm X) op' r') : ∀ σ H Q, lift (gm X) W (fChain op op' f g h) σ H Q → tChain r r' (lift (gm X) W f) (lift (gm X) W g) (lift (gm X) W h) σ H Q := fun σ H Q hh => by
  refine lift_bind hh fun ρ env M H1 u v es rv q => ⟨ρ, env, M, es, (Kont.bind q).mono (fun u2 H2 hq => ?_) fun _ _ _ z => z⟩
  obtain ⟨ρ2, M2, w, s2, g2, rw', q2⟩ := hq
  refine k1 ρ2 M2 H2 u u2 v w _ _ g2 (rv.step s2) rw' ((Kont.bind q2).mono (fun u3 H3 hq => ?_) fun _ _ _ z => z)
  obtain ⟨ρ3, M3, z, s3, g3, rz, q3⟩ := hq
  split at q3
  · refine ⟨true, rz, ?_⟩
    rw [if_pos rfl]
    refine ⟨ρ3, env, M3, (es.step s2 g2).step s3 g3, (Kont.bind q3).mono (fun u4 H4 hq => ?_) fun _ _ _ z => z⟩
    obtain ⟨ρ4, M4, y, s4, g4, ry, q4⟩ := hq
    exact k2 ρ4 M4 H4 u2 u4 w y Q _ g4 ((rw'.step s3).step s4) ry q4
  · refine ⟨false, rz, ?_⟩
    rw [if_neg Bool.false_ne_true]
    exact q3 ρ3 _ H3 .refl g3 rfl
  · exact q3.elim
theorem ve_chain_le (ha : VE X W a f) (hb : VE X W b g) (hc : VE X W c h) (hm : lastMarks [CmpOp.LtE, CmpOp.LtE] [b, c] = false := by first | rfl | with_unfolding_all rfl) : VE X W (.Compare a [.LtE, .LtE] [b, c] pos) (fChain opLe opLe f g h) := pe_imp (pe_chain op_le op_le ha hb hc (hm := hm)) (lift_chain k_opB k_opB)
theorem vt_chain_le (ha : VE X W a f) (hb : VE X W b g) (hc : VE X W c h) (hm : lastMarks [CmpOp.LtE, CmpOp.LtE] [b, c] = false := by first | rfl | with_unfolding_all rfl) : VT X W (.Compare a [.LtE, .LtE] [b, c] pos) (asB (fChain opLe opLe f g h)) := pt_imp (pt_chain op_le op_le ha hb hc (hm := hm)) fun σ H Q hq => lift_chain k_opB k_opB σ H _ (liftb_asB σ H Q hq)
theorem ve_chain_ltle (hr : Rm k X.A) (ha : VE X W a f) (hb : VE X W b g) (hc : VE X W c h) (hm : lastMarks [CmpOp.Lt, CmpOp.LtE] [b, c] = false := by first | rfl | with_unfolding_all rfl) : VE X W (.Compare a [.Lt, .LtE] [b, c] pos) (fChain opLt opLe f g h) := pe_imp (pe_chain (OpR.or op_lt (op_ltT hr.units0)) op_le ha hb hc (hm := hm)) (lift_chain k_lt k_opB)
theorem vt_chain_ltle (hr : Rm k X.A) (ha : VE X W a f) (hb : VE X W b g) (hc : VE X W c h) (hm : lastMarks [CmpOp.Lt, CmpOp.LtE] [b, c] = false := by first | rfl | with_unfolding_all rfl) : VT X W (.Compare a [.Lt, .LtE] [b, c] pos) (asB (fChain opLt opLe f g h)) := pt_imp (pt_chain (OpR.or op_lt (op_ltT hr.units0)) op_le ha hb hc (hm := hm)) fun σ H Q hq => lift_chain k_lt k_opB σ H _ (liftb_asB σ H Q hq)

/-! ### and, or, not, if-expressions -/
def bAnd (p q : BF) : BF := fun e M => rbind (p e M) fun b M1 => if b = true then q e M1 else .ok false M1
def bOr (p q : BF) : BF := fun e M => rbind (p e M) fun b M1 => if b = true then .ok true M1 else q e M1
def bNot (p : BF) : BF := fun e M => rbind (p e M) fun b M1 => .ok (!b) M1
theorem vw_and1 (ha : VT X W a p) : VW X W (.BoolOp .And [a] pos) p := pw_and1 ha
theorem vw_or1 (ha : VT X W a p) : VW X W (.BoolOp .Or [a] pos) p := pw_or1 ha
theorem vw_and (ha : VT X W a p) (hb : VW X W (.BoolOp .And (b :: rest) pos) q) : VW X W (.BoolOp .And (a :: b :: rest) pos) (bAnd p q) := pw_imp (pw_and ha hb) fun σ H Q ⟨ρ, env, M, es, h⟩ => by
  refine ⟨ρ, env, M, es, (Kontb.bindb h).mono (fun u H1 ⟨ρ1, M1, s1, g1, q⟩ => ?_) fun _ _ _ z => z⟩
  cases u with
  | true => exact ⟨ρ1, env, M1, es.step s1 g1, q⟩
  | false => exact q ρ1 H1 .refl g1
theorem vw_or (ha : VT X W a p) (hb : VW X W (.BoolOp .Or (b :: rest) pos) q) : VW X W (.BoolOp .Or (a :: b :: rest) pos) (bOr p q) := pw_imp (pw_or ha hb) fun σ H Q ⟨ρ, env, M, es, h⟩ => by
  refine ⟨ρ, env, M, es, (Kontb.bindb h).mono (fun u H1 ⟨ρ1, M1, s1, g1, q⟩ => ?_) fun _ _ _ z => z⟩
  cases u with
  | true => exact q ρ1 H1 .refl g1
  | false => exact ⟨ρ1, env, M1, es.step s1 g1, q⟩
theorem vt_w (h : VW X W e p) : VT X W e p := PW.pt h
theorem vt_not (ha : VT X W a p) : VT X W (.UnaryOp .Not a pos) (bNot p) := pt_imp (pt_not ha) fun σ H Q ⟨ρ, env, M, es, h⟩ =>
  ⟨ρ, env, M, es, (Kontb.bindb h).mono (fun u H1 ⟨ρ1, M1, s1, g1, q⟩ => q ρ1 H1 .refl g1) fun _ _ _ z => z⟩
/-- values -/
def fAnd (f g : EF) : EF := fun e M => rbind (f e M) fun v M1 => match tru M1 v with
  | some true => g e M1
  | some false => .ok v M1
  | none => .bad
def fOr (f g : EF) : EF := fun e M => rbind (f e M) fun v M1 => match tru M1 v with
  | some true => .ok v M1
  | some false => g e M1
  | none => .bad
def fNot (f : EF) : EF := fun e M => rbind (f e M) fun v M1 => match tru M1 v with
  | some b => .ok (.d (.bl (!b))) M1
  | none => .bad
theorem ve_one {o : BoolOp} (ha : VE X W a f) : VE X W (.BoolOp o [a] pos) f := pe_one ha
theorem ve_and (ha : VE X W a f) (hb : VE X W (.BoolOp .And (b :: rest) pos) g) : VE X W (.BoolOp .And (a :: b :: rest) pos) (fAnd f g) := pe_imp (pe_andT ha hb) fun σ H Q hh => by
  refine lift_bind hh fun ρ env M H1 u v es rv q => ?_
  split at q
  · rename_i eb
    refine ⟨true, tru_rep es.gs rv eb, ?_⟩
    rw [if_pos rfl]
    exact ⟨ρ, env, M, es, q⟩
  · rename_i eb
    refine ⟨false, tru_rep es.gs rv eb, ?_⟩
    rw [if_neg Bool.false_ne_true]
    exact q ρ u H1 .refl es.gs rv
  · exact q.elim
theorem ve_or (ha : VE X W a f) (hb : VE X W (.BoolOp .Or (b :: rest) pos) g) : VE X W (.BoolOp .Or (a :: b :: rest) pos) (fOr f g) := pe_imp (pe_orT ha hb) fun σ H Q hh => by
  refine lift_bind hh fun ρ env M H1 u v es rv q => ?_
  split at q
  · rename_i eb
    refine ⟨true, tru_rep es.gs rv eb, ?_⟩
    rw [if_pos rfl]
    exact q ρ u H1 .refl es.gs rv
  · rename_i eb
    refine ⟨false, tru_rep es.gs rv eb, ?_⟩
    rw [if_neg Bool.false_ne_true]
    exact ⟨ρ, env, M, es, q⟩
  · exact q.elim
theorem ve_not (ha : VE X W a f) : VE X W (.UnaryOp .Not a pos) (fNot f) := pe_imp (pe_notT ha) fun σ H Q hh => by
  refine lift_bind hh fun ρ env M H1 u v es rv q => ?_
  split at q
  · rename_i b eb
    exact ⟨b, tru_rep es.gs rv eb, q ρ _ H1 .refl es.gs rfl⟩
  · exact q.elim
def fIf (p : BF) (f g : EF) : EF := fun e M => rbind (p e M) fun b M1 => if b = true then f e M1 else g e M1
theorem ve_if (hc : VT X W c p) (ha : VE X W a f) (hb : VE X W b g) : VE X W (.IfExp c a b pos) (fIf p f g) := pe_imp (pe_ifExp hc ha hb) fun σ H Q ⟨ρ, env, M, es, h⟩ => by
  refine ⟨ρ, env, M, es, (Kontb.bind h).mono (fun u H1 ⟨ρ1, M1, s1, g1, q⟩ => ?_) fun _ _ _ z => z⟩
  cases u with
  | true => exact ⟨ρ1, env, M1, es.step s1 g1, q⟩
  | false => exact ⟨ρ1, env, M1, es.step s1 g1, q⟩
end
end Vl
set_option Elab.async false
set_option linter.all false
set_option maxRecDepth 100000
/-! Vl5: in, subscripts, slices. -/
namespace Vl
open PySem PySem.Spec PyProof.Rows L2
section
variable {X : Cx} {W : WX} {e a b c : Expr} {es rest : List Expr} {f g h : EF} {p q : BF} {pos : Pos} {r r' : R2} {k : Nat} {o o' : CmpOp}

/-! ### in -/
def flatD : D → Bool
  | .non => true | .bl _ => true | .int _ => true | .str _ => true | _ => false
theorem flat_rep {mg : Mg} {S : Addr → Prop} {H : Hp} {v : V} {d : D} (r : Rep mg S H v d) (h : flatD d = true) : flatV v = true := by
  cases d <;> first | (cases r; rfl) | (cases h)
theorem eqv_rep {mg : Mg} {S : Addr → Prop} {H : Hp} {v w : V} {d e : D} (r : Rep mg S H v d) (r2 : Rep mg S H w e) (h : flatD d = true) (h2 : flatD e = true) : eqV v w = PyData.eqv (toPy d) (toPy e) := by
  cases d <;> first | (cases h; done) | (cases e <;> first | (cases h2; done) | (cases r; cases r2; simp only [eqV, toPy, PyData.eqv]))
theorem flats_rep {mg : Mg} {S : Addr → Prop} {H : Hp} : ∀ {l : List D} {us : List V}, RepL mg S H us l → l.all flatD = true → us.all flatV = true
  | [], _, r, _ => by cases r; rfl
  | x :: l, _, r, h => by
    obtain ⟨u, ws, rfl, h1, h2⟩ := r
    rw [List.all_cons, Bool.and_eq_true] at h
    rw [List.all_cons, flat_rep h1 h.1, flats_rep h2 h.2]; rfl
theorem inV_rep {mg : Mg} {S : Addr → Prop} {H : Hp} {w : V} {e : D} (r2 : Rep mg S H w e) (h2 : flatD e = true) : ∀ {l : List D} {us : List V}, RepL mg S H us l → l.all flatD = true → inV w us = (toPys l).any fun z => PyData.eqv z (toPy e)
  | [], _, r, _ => by cases r; rfl
  | x :: l, _, r, h => by
    obtain ⟨u, ws, rfl, h1, h3⟩ := r
    rw [List.all_cons, Bool.and_eq_true] at h
    have ih := inV_rep r2 h2 h3 h.2
    unfold inV at ih ⊢
    rw [List.any_cons, eqv_rep h1 r2 h.1 h2, ih]
    rfl
def inRes (neg b : Bool) (M : Mem) : R Val := .ok (.d (.bl (if neg then !b else b))) M
/-- x in a list, a tuple, a text (one sign) -/
def opIn (neg : Bool) (v w : Val) (M : Mem) : R Val := match rdL M w with
  | some l => if SeqAt.shaped (pyOf M v) = true ∧ SeqAt.shaped (.list (toPys l)) = true then inRes neg ((toPys l).any fun z => PyData.eqv z (pyOf M v)) M else .bad
  | none => match v, w with
    | .d x, .d (.tup l) => if flatD x = true ∧ l.all flatD = true then inRes neg ((toPys l).any fun z => PyData.eqv z (toPy x)) M else .bad
    | .d (.str x), .d (.str z) => match x.cps.toList with
      | [c] => inRes neg (decide (c ∈ z.cps.toList)) M
      | _ => .bad
    | _, _ => .bad
theorem rdL_py {mg : Mg} {ρ : Rho} {M : Mem} {H : Hp} {u : V} {v : Val} {l : List D} (g : Gs mg ρ M H) (r : RepV mg ρ M H u v) (e : rdL M v = some l) (c : (PyData.list (toPys l)).canLay0 = true) : Dp mg.K H u (.list (toPys l)) := by
  obtain ⟨a, us, rfl, h, q⟩ := rdL_rep g r e
  exact .lst h (dpAll_of q (by simpa [PyData.canLay0] using c))
theorem str_one {x : Str} {c : Nat} (h : x.cps.toList = [c]) : x = ⟨#[c]⟩ := by
  cases x with
  | mk a =>
    have : a = #[c] := by
      have := congrArg List.toArray h
      simpa using this
    rw [this]
theorem k_in : OpK (gm X) (opIn false) (fun x y H Q => rInD X.K x y H Q ∨ (fun x y H Q => rIn X.K false x y H Q ∨ (∃ (c : Nat) (z : Str), x = .str ⟨#[c]⟩ ∧ y = .str z ∧ Q (.bl (decide (c ∈ z.cps.toList))) H)) x y H Q) := fun ρ M H x y v w Q E g rx ry q => by
  unfold opIn at q
  split at q
  · rename_i l el
    split at q
    · rename_i c
      exact .inl ⟨_, _, dp_pyOf g rx (canLay_of_shaped c.1), rdL_py g ry el (canLay_of_shaped c.2), c.1, c.2, q ρ _ H .refl g rfl⟩
    · exact q.elim
  · split at q
    · rename_i d l
      split at q
      · rename_i c
        obtain ⟨a, us, rfl, h, n, l1⟩ := ry
        refine .inr (.inl ⟨a, us, rfl, .inr (.inl h), flat_rep rx c.1, flats_rep l1 c.2, ?_⟩)
        rw [inV_rep rx c.1 l1 c.2]
        exact q ρ _ H .refl g rfl
      · exact q.elim
    · split at q
      · rename_i c ec
        have e1 := str_one ec
        subst e1
        exact .inr (.inr ⟨c, _, rx, ry, q ρ _ H .refl g rfl⟩)
      · exact q.elim
    · exact q.elim
theorem k_notIn : OpK (gm X) (opIn true) (fun x y H Q => rNotInD X.K x y H Q ∨ (fun x y H Q => rIn X.K true x y H Q ∨ (∃ (c : Nat) (z : Str), x = .str ⟨#[c]⟩ ∧ y = .str z ∧ Q (.bl (!decide (c ∈ z.cps.toList))) H)) x y H Q) := fun ρ M H x y v w Q E g rx ry q => by
  unfold opIn at q
  split at q
  · rename_i l el
    split at q
    · rename_i c
      exact .inl ⟨_, _, dp_pyOf g rx (canLay_of_shaped c.1), rdL_py g ry el (canLay_of_shaped c.2), c.1, c.2, q ρ _ H .refl g rfl⟩
    · exact q.elim
  · split at q
    · rename_i d l
      split at q
      · rename_i c
        obtain ⟨a, us, rfl, h, n, l1⟩ := ry
        refine .inr (.inl ⟨a, us, rfl, .inr (.inl h), flat_rep rx c.1, flats_rep l1 c.2, ?_⟩)
        rw [inV_rep rx c.1 l1 c.2]
        exact q ρ _ H .refl g rfl
      · exact q.elim
    · split at q
      · rename_i c ec
        have e1 := str_one ec
        subst e1
        exact .inr (.inr ⟨c, _, rx, ry, q ρ _ H .refl g rfl⟩)
      · exact q.elim
    · exact q.elim
theorem room65 (hr : Rm (k + 1) X.A) : X.A.units + 65 < cLine := by have := hr.un; omega
theorem vc_in (hr : Rm (k + 1) X.A) (ha : VE X W a f) (hb : VE X W b g) : VC X W .In a b (fOp (opIn false) f g) := vc_op (OpR.or (op_inD (room65 hr)) (OpR.or op_in_seq op_in_sign)) k_in ha hb
theorem vc_notIn (hr : Rm (k + 1) X.A) (ha : VE X W a f) (hb : VE X W b g) : VC X W .NotIn a b (fOp (opIn true) f g) := vc_op (OpR.or (op_notInD (room65 hr)) (OpR.or op_notIn_seq op_notIn_sign)) k_notIn ha hb
/-- keys of dicts -/
def keyOf : Val → Option Key
  | .d (.int i) => some (.inl i)
  | .d (.str x) => some (.inr x)
  | _ => none
def kD : Key → D
  | .inl i => .int i
  | .inr x => .str x
theorem keyOf_rep {mg : Mg} {ρ : Rho} {M : Mem} {H : Hp} {u : V} {v : Val} {key : Key} (r : RepV mg ρ M H u v) (e : keyOf v = some key) : u = kV key := by
  unfold keyOf at e
  split at e
  · cases e; cases r; rfl
  · cases e; cases r; rfl
  · cases e
def lookK (ps : List (Key × D)) (key : Key) : Option D := match ps with
  | [] => none
  | (k', d) :: r => if k' = key then some d else lookK r key
theorem valV_rep {mg : Mg} {S : Addr → Prop} {H : Hp} {key : Key} : ∀ {ps : List (Key × D)} {us : List (Key × V)}, RepP mg S H us ps → match lookK ps key with
    | some d => ∃ v, valV us key = some v ∧ Rep mg S H v d
    | none => valV us key = none
  | [], _, r => by cases r; rfl
  | (k', d) :: ps, _, r => by
    obtain ⟨u, ws, rfl, h1, h2⟩ := r
    unfold lookK
    by_cases e : k' = key
    · rw [if_pos e]
      exact ⟨u, valV_pos e, h1⟩
    · rw [if_neg e]
      have ih := valV_rep (key := key) h2
      revert ih
      cases lookK ps key with
      | none => exact fun ih => (valV_neg e).trans ih
      | some d2 => exact fun ⟨v, a, b⟩ => ⟨v, (valV_neg e).trans a, b⟩
def opInD (neg : Bool) (v w : Val) (M : Mem) : R Val := match rdD M w, keyOf v with
  | some ps, some key => inRes neg (lookK ps key).isSome M
  | _, _ => .bad
theorem vc_inD (hr : Rm k X.A) (ha : VE X W a f) (hb : VE X W b g) : VC X W .In a b (fOp (opInD false) f g) := pc_imp (pc_din (by have := hr.units; omega) ha hb) fun σ H Q hh => by
  refine lift_bind hh fun ρ env M H1 u v es rv q => ⟨ρ, env, M, es, (Kont.bind q).mono (fun u2 H2 hq => ?_) fun _ _ _ z => z⟩
  obtain ⟨ρ2, M2, w, s2, g2, rw', q2⟩ := hq
  unfold opInD at q2
  split at q2
  · rename_i ps key ep ek
    obtain ⟨a, us, rfl, h, l⟩ := rdD_rep g2 rw' ep
    refine ⟨a, valV us key, rfl, .inl ⟨us, key, h, keyOf_rep (rv.step s2) ek, rfl⟩, ?_⟩
    have := valV_rep (key := key) l
    revert this q2
    cases lookK ps key with
    | none => intro q2 e; rw [e]; exact q2 ρ2 _ H2 .refl g2 rfl
    | some d => intro q2 ⟨v, e, _⟩; rw [e]; exact q2 ρ2 _ H2 .refl g2 rfl
  · exact q2.elim
theorem vc_notInD (hr : Rm k X.A) (ha : VE X W a f) (hb : VE X W b g) : VC X W .NotIn a b (fOp (opInD true) f g) := pc_imp (pc_dnotin (by have := hr.units; omega) ha hb) fun σ H Q hh => by
  refine lift_bind hh fun ρ env M H1 u v es rv q => ⟨ρ, env, M, es, (Kont.bind q).mono (fun u2 H2 hq => ?_) fun _ _ _ z => z⟩
  obtain ⟨ρ2, M2, w, s2, g2, rw', q2⟩ := hq
  unfold opInD at q2
  split at q2
  · rename_i ps key ep ek
    obtain ⟨a, us, rfl, h, l⟩ := rdD_rep g2 rw' ep
    refine ⟨a, valV us key, rfl, .inl ⟨us, key, h, keyOf_rep (rv.step s2) ek, rfl⟩, ?_⟩
    have := valV_rep (key := key) l
    revert this q2
    cases lookK ps key with
    | none => intro q2 e; rw [e]; exact q2 ρ2 _ H2 .refl g2 rfl
    | some d => intro q2 ⟨v, e, _⟩; rw [e]; exact q2 ρ2 _ H2 .refl g2 rfl
  · exact q2.elim

/-! ### subscripts -/
def opIx (v w : Val) (M : Mem) : R Val := match w with
  | .d (.int i) => match v with
    | .d (.str z) => if z.length ≤ big then (match atI z.cps.toList i with
      | some c => .ok (.d (.str ⟨#[c]⟩)) M
      | none => .bad) else .bad
    | v => match rdS M v with
      | some l => (match atI l i with
        | some x => .ok (.d x) M
        | none => .bad)
      | none => .bad
  | _ => .bad
theorem atI_rep {mg : Mg} {S : Addr → Prop} {H : Hp} {l : List D} {us : List V} {i : Int} {x : D} (r : RepL mg S H us l) (e : atI l i = some x) : ∃ u, atI us i = some u ∧ Rep mg S H u x := by
  unfold atI at e ⊢
  rw [RepL.length r]
  cases hi : ixN l.length i with
  | none => rw [hi] at e; cases e
  | some j =>
    rw [hi] at e
    exact r.get e
theorem k_ix : OpK (gm X) opIx (rIx X.K) := fun ρ M H x y v w Q E g rx ry q => by
  unfold opIx at q
  split at q
  · rename_i i
    split at q
    · rename_i z
      split at q
      · rename_i hl
        split at q
        · rename_i c ec
          exact .inr (.inr ⟨z, i, c, rx, ry, big_le hl, ec, q ρ _ H .refl g rfl⟩)
        · exact q.elim
      · exact q.elim
    · split at q
      · rename_i l el
        split at q
        · rename_i d ed
          obtain ⟨a, us, e1, h, l1⟩ := rdS_rep g rx el
          obtain ⟨u, eu, ru⟩ := atI_rep l1 ed
          rcases h with h | h
          · exact .inl ⟨a, us, i, u, e1, ry, h, eu, q ρ _ H .refl g ru⟩
          · exact .inr (.inl ⟨a, us, i, u, e1, ry, h, eu, q ρ _ H .refl g ru⟩)
        · exact q.elim
      · exact q.elim
  · exact q.elim
theorem ve_sub1 (ha : VE X W a f) (hb : VE X W b g) (hs : PlainIx b := by exact fun _ _ => rfl) : VE X W (.Subscript a b pos) (fOp opIx f g) := ve_ix (hs := hs) ix_seq k_ix ha hb
/-- d[key] -/
def opIxD (v w : Val) (M : Mem) : R Val := match rdD M v, keyOf w with
  | some ps, some key => (match lookK ps key with
    | some d => .ok (.d d) M
    | none => .bad)
  | _, _ => .bad
theorem ve_subD (hr : Rm k X.A) (ha : VE X W a f) (hb : VE X W b g) (hs : NoSl b := by exact fun _ _ => rfl) : VE X W (.Subscript a b pos) (fOp opIxD f g) := pe_imp (pe_dget (by have := hr.units; omega) ha hb hs) fun σ H Q hh => by
  refine lift_bind hh fun ρ env M H1 u v es rv q => ⟨ρ, env, M, es, (Kont.bind q).mono (fun u2 H2 hq => ?_) fun _ _ _ z => z⟩
  obtain ⟨ρ2, M2, w, s2, g2, rw', q2⟩ := hq
  unfold opIxD at q2
  split at q2
  · rename_i ps key ep ek
    obtain ⟨a, us, rfl, h, l⟩ := rdD_rep g2 (rv.step s2) ep
    have := valV_rep (key := key) l
    revert this q2
    cases lookK ps key with
    | none => exact fun q2 _ => q2.elim
    | some d => exact fun q2 ⟨v, e, rv⟩ => ⟨a, v, rfl, .inl ⟨us, key, h, keyOf_rep rw' ek, e.symm⟩, q2 ρ2 _ H2 .refl g2 rv⟩
  · exact q2.elim

/-! ### slices -/
def cutD {α : Type} (xs : List α) (lo hi : Option Int) : List α := (xs.drop (HT.sIx xs.length 0 lo)).take (HT.sIx xs.length xs.length hi - HT.sIx xs.length 0 lo)
theorem cut_rep {mg : Mg} {S : Addr → Prop} {H : Hp} {l : List D} {us : List V} {lo hi : Option Int} (r : RepL mg S H us l) : RepL mg S H (cutV us lo hi) (cutD l lo hi) := by
  unfold cutV cutD
  rw [RepL.length r]
  exact RepL.take _ (RepL.drop _ r)
def opCut (v : Val) (lo hi : Option Int) (M : Mem) : R Val := match v with
  | .d (.tup l) => .ok (.d (.tup (cutD l lo hi))) M
  | .d (.str z) => if z.length ≤ big then .ok (.d (.str (cutS z lo hi))) M else .bad
  | v => match rdL M v with
    | some l => .ok (.d (.lst (cutD l lo hi))) M
    | none => .bad
def fCutHi (f g : EF) : EF := fun e M => rbind (f e M) fun v M1 => rbind (g e M1) fun w M2 => match w with
  | .d (.int i) => opCut v none (some i) M2
  | _ => .bad
def fCutLo (f g : EF) : EF := fun e M => rbind (f e M) fun v M1 => rbind (g e M1) fun w M2 => match w with
  | .d (.int i) => opCut v (some i) none M2
  | _ => .bad
theorem cut_full {l : List D} {lo hi : Option Int} (h : HT.sIx l.length 0 lo = 0 ∧ HT.sIx l.length l.length hi = l.length) : cutD l lo hi = l := by
  unfold cutD
  rw [h.1, h.2]
  simp
theorem opCut_ok {ρ : Rho} {M : Mem} {H : Hp} {x : V} {v : Val} {lo hi : Option Int} {Q : VK} {E : XK} (g : Gs (gm X) ρ M H) (rx : RepV (gm X) ρ M H x v) (q : Kont (gm X) ρ M H (opCut v lo hi M) Q E) :
    rSlA X.K x lo hi H Q ∨ rSlS x lo hi H Q ∨ rSlL X.K x lo hi H Q := by
  unfold opCut at q
  split at q
  · rename_i l
    obtain ⟨a, us, rfl, h, n, l1⟩ := id rx
    have e1 := RepL.length l1
    refine .inl ⟨a, us, rfl, .inl h, fun z => ?_, fun _ => kont_tup g (cut_rep l1) q⟩
    rw [e1] at z
    rw [cut_full z] at q
    exact q ρ _ H .refl g rx
  · split at q
    · rename_i hl
      exact .inr (.inl ⟨_, rx, big_le hl, q ρ _ H .refl g rfl⟩)
    · exact q.elim
  · split at q
    · rename_i l el
      obtain ⟨a, us, rfl, h, l1⟩ := rdL_rep g rx el
      exact .inr (.inr ⟨a, us, rfl, h, kont_lst g (cut_rep l1) q⟩)
    · exact q.elim
abbrev slAll (X : Cx) : SlR X (fun x lo hi H Q => rSlA X.K x lo hi H Q ∨ (fun x lo hi H Q => rSlS x lo hi H Q ∨ rSlL X.K x lo hi H Q) x lo hi H Q) := SlR.or sl_tupA (SlR.or sl_str sl_list)
theorem ve_cutHi {p2 : Pos} (ha : VE X W a f) (hb : VE X W b g) : VE X W (.Subscript a (.Slice none (some b) none p2) pos) (fCutHi f g) := pe_imp (pe_slice (slAll X) ha po_none (po_some hb)) fun σ H Q hh => by
  refine lift_bind hh fun ρ env M H1 u v es rv q => ⟨ρ, env, M, es, (Kont.bind q).mono (fun u2 H2 hq => ?_) fun _ _ _ z => z⟩
  obtain ⟨ρ2, M2, w, s2, g2, rw', q2⟩ := hq
  split at q2
  · exact ⟨_, rw', opCut_ok g2 (rv.step s2) q2⟩
  · exact q2.elim
theorem ve_cutLo {p2 : Pos} (ha : VE X W a f) (hb : VE X W b g) : VE X W (.Subscript a (.Slice (some b) none none p2) pos) (fCutLo f g) := pe_imp (pe_slice (slAll X) ha (po_some hb) po_none) fun σ H Q hh => by
  refine lift_bind hh fun ρ env M H1 u v es rv q => ⟨ρ, env, M, es, (Kont.bind q).mono (fun u2 H2 hq => ?_) fun _ _ _ z => z⟩
  obtain ⟨ρ2, M2, w, s2, g2, rw', q2⟩ := hq
  split at q2
  · exact ⟨_, rw', opCut_ok g2 (rv.step s2) q2⟩
  · exact q2.elim
def fRev (f : EF) : EF := fun e M => rbind (f e M) fun v M1 => match rdL M1 v with
  | some l => .ok (.d (.lst l.reverse)) M1
  | none => .bad
theorem ve_rev {k : Nat} {p1 p2 p3 : Pos} (ha : VE X W a f) : VE X W (.Subscript a (.Slice none none (some (.UnaryOp .USub (.Constant (.int 1) k p1) p2)) p3) pos) (fRev f) := pe_imp (pe_revL ha) fun σ H Q hh => by
  refine lift_bind hh fun ρ env M H1 u v es rv q => ?_
  split at q
  · rename_i l el
    obtain ⟨a, us, rfl, h, l1⟩ := rdL_rep es.gs rv el
    exact ⟨a, us, rfl, h, kont_lst es.gs (RepL.reverse l1) q⟩
  · exact q.elim
end
end Vl
set_option Elab.async false
set_option linter.all false
set_option maxRecDepth 100000
/-! Vl6: statements. -/
namespace Vl
open PySem PySem.Spec PyProof.Rows L2

inductive O where
  | nx (e : En) (M : Mem) | rt (v : Val) (M : Mem) | bk (e : En) (M : Mem) | ct (e : En) (M : Mem) | er (x : Exn) (e : En) (M : Mem) | bad
abbrev SF := En → Mem → O
def KontS (mg : Mg) (ρ : Rho) (M : Mem) (H : Hp) (o : O) (D : Ends) (W : WX) : Prop := match o with
  | .nx e' M' => ∀ ρ' σ' H', Stp ρ M H ρ' M' H' → Es mg ρ' e' M' σ' H' → D.nx σ' H'
  | .rt v M' => ∀ ρ' u H', Stp ρ M H ρ' M' H' → Gs mg ρ' M' H' → RepV mg ρ' M' H' u v → D.rt u H'
  | .bk e' M' => ∀ ρ' σ' H', Stp ρ M H ρ' M' H' → Es mg ρ' e' M' σ' H' → D.bk σ' H'
  | .ct e' M' => ∀ ρ' σ' H', Stp ρ M H ρ' M' H' → Es mg ρ' e' M' σ' H' → D.ct σ' H'
  | .er x e' M' => ∀ ρ' σ' cls d H', Stp ρ M H ρ' M' H' → Es mg ρ' e' M' σ' H' → RepX mg ρ' M' H' cls d x → W cls d σ' H'
  | .bad => False
def liftS (mg : Mg) (W : WX) (f : SF) : TS := fun D σ H => ∃ ρ env M, Es mg ρ env M σ H ∧ KontS mg ρ M H (f env M) D W
def VS (X : Cx) (W : WX) (st : Stmt) (f : SF) : Prop := PS X st (liftS (gm X) W f)
def VSs (X : Cx) (W : WX) (st : List Stmt) (f : SF) : Prop := PSs X st (liftS (gm X) W f)
section
variable {mg : Mg} {ρ ρ' : Rho} {M M' : Mem} {H H' : Hp} {D D' : Ends} {W W' : WX}
theorem KontS.from {o : O} (s : Stp ρ M H ρ' M' H') (h : KontS mg ρ M H o D W) : KontS mg ρ' M' H' o D W := by
  cases o with
  | nx v M2 => exact fun ρ2 u H2 s2 g => h ρ2 u H2 (s.trans s2) g
  | rt v M2 => exact fun ρ2 u H2 s2 g => h ρ2 u H2 (s.trans s2) g
  | bk v M2 => exact fun ρ2 u H2 s2 g => h ρ2 u H2 (s.trans s2) g
  | ct v M2 => exact fun ρ2 u H2 s2 g => h ρ2 u H2 (s.trans s2) g
  | er x e M2 => exact fun ρ2 c d q H2 s2 g r => h ρ2 c d q H2 (s.trans s2) g r
  | bad => exact h
/-- a value, then a statement's end -/
theorem Kont.toS {r : R Val} {k : Val → Mem → O} {e : En} {σ : L2.St} (es : Es mg ρ e M σ H) (h : KontS mg ρ M H (match r with | .ok v M' => k v M' | .err x M' => .er x e M' | .bad => .bad) D W) :
    Kont mg ρ M H r (fun u H1 => ∃ ρ1 M1 v, Stp ρ M H ρ1 M1 H1 ∧ Es mg ρ1 e M1 σ H1 ∧ RepV mg ρ1 M1 H1 u v ∧ KontS mg ρ1 M1 H1 (k v M1) D W) (fun c d H' => W c d σ H') := by
  cases r with
  | ok v M2 => exact fun ρ2 u H2 s2 g rv => ⟨ρ2, M2, v, s2, es.step s2 g, rv, h.from s2⟩
  | err x M2 => exact fun ρ2 c d H2 s2 g rx => h ρ2 σ c d H2 s2 (es.step s2 g) rx
  | bad => exact h
theorem Kontb.toS {r : R Bool} {k : Bool → Mem → O} {e : En} {σ : L2.St} (es : Es mg ρ e M σ H) (h : KontS mg ρ M H (match r with | .ok v M' => k v M' | .err x M' => .er x e M' | .bad => .bad) D W) :
    Kontb mg ρ M H r (fun b H1 => ∃ ρ1 M1, Stp ρ M H ρ1 M1 H1 ∧ Es mg ρ1 e M1 σ H1 ∧ KontS mg ρ1 M1 H1 (k b M1) D W) (fun c d H' => W c d σ H') := by
  cases r with
  | ok v M2 => exact fun ρ2 H2 s2 g => ⟨ρ2, M2, s2, es.step s2 g, h.from s2⟩
  | err x M2 => exact fun ρ2 c d H2 s2 g rx => h ρ2 σ c d H2 s2 (es.step s2 g) rx
  | bad => exact h
theorem Konts.toS {r : R (List Val)} {k : List Val → Mem → O} {e : En} {σ : L2.St} (es : Es mg ρ e M σ H) (h : KontS mg ρ M H (match r with | .ok v M' => k v M' | .err x M' => .er x e M' | .bad => .bad) D W) :
    Konts mg ρ M H r (fun u H1 => ∃ ρ1 M1 v, Stp ρ M H ρ1 M1 H1 ∧ Es mg ρ1 e M1 σ H1 ∧ RepVs mg ρ1 M1 H1 u v ∧ KontS mg ρ1 M1 H1 (k v M1) D W) (fun c d H' => W c d σ H') := by
  cases r with
  | ok v M2 => exact fun ρ2 u H2 s2 g rv => ⟨ρ2, M2, v, s2, es.step s2 g, rv, h.from s2⟩
  | err x M2 => exact fun ρ2 c d H2 s2 g rx => h ρ2 σ c d H2 s2 (es.step s2 g) rx
  | bad => exact h
theorem Es.set {e : En} {σ : L2.St} {i : Nat} {u : V} {v : Val} (es : Es mg ρ e M σ H) (r : RepV mg ρ M H u v) : Es mg ρ (e.set i (some v)) M (σ.set i (some u)) H := by
  refine ⟨es.gs, fun j w h => ?_, by simp [es.len]⟩
  by_cases z : i = j
  · subst z
    have hl : i < (e.set i (some v)).length := (List.getElem?_eq_some_iff.mp h).1
    rw [List.length_set] at hl
    rw [List.getElem?_set_self hl] at h
    cases h
    exact ⟨u, List.getElem?_set_self (by rw [← es.len]; exact hl), r⟩
  · rw [List.getElem?_set_ne z] at h
    obtain ⟨u', a, b⟩ := es.sl j w h
    exact ⟨u', by rw [List.getElem?_set_ne z]; exact a, b⟩
theorem Es.unset {e : En} {σ : L2.St} {i : Nat} (es : Es mg ρ e M σ H) : Es mg ρ (e.set i none) M (σ.set i none) H := by
  refine ⟨es.gs, fun j w h => ?_, by simp [es.len]⟩
  by_cases z : i = j
  · subst z
    have hl : i < (e.set i none).length := (List.getElem?_eq_some_iff.mp h).1
    rw [List.length_set] at hl
    rw [List.getElem?_set_self hl] at h
    cases h
  · rw [List.getElem?_set_ne z] at h
    obtain ⟨u', a, b⟩ := es.sl j w h
    exact ⟨u', by rw [List.getElem?_set_ne z]; exact a, b⟩
end
def rO (r : R Val) (e : En) (k : Val → Mem → O) : O := match r with | .ok v M' => k v M' | .err x M' => .er x e M' | .bad => .bad
def rOb (r : R Bool) (e : En) (k : Bool → Mem → O) : O := match r with | .ok v M' => k v M' | .err x M' => .er x e M' | .bad => .bad
def rOs (r : R (List Val)) (e : En) (k : List Val → Mem → O) : O := match r with | .ok v M' => k v M' | .err x M' => .er x e M' | .bad => .bad
@[simp] theorem rO_ok (v : Val) (M : Mem) (e : En) (k : Val → Mem → O) : rO (.ok v M) e k = k v M := rfl
@[simp] theorem rO_err (x : Exn) (M : Mem) (e : En) (k : Val → Mem → O) : rO (.err x M) e k = .er x e M := rfl
@[simp] theorem rO_bad (e : En) (k : Val → Mem → O) : rO .bad e k = .bad := rfl
@[simp] theorem rOb_ok (v : Bool) (M : Mem) (e : En) (k : Bool → Mem → O) : rOb (.ok v M) e k = k v M := rfl
@[simp] theorem rOb_err (x : Exn) (M : Mem) (e : En) (k : Bool → Mem → O) : rOb (.err x M) e k = .er x e M := rfl
@[simp] theorem rOb_bad (e : En) (k : Bool → Mem → O) : rOb .bad e k = .bad := rfl
@[simp] theorem rOs_ok (v : List Val) (M : Mem) (e : En) (k : List Val → Mem → O) : rOs (.ok v M) e k = k v M := rfl
@[simp] theorem rOs_err (x : Exn) (M : Mem) (e : En) (k : List Val → Mem → O) : rOs (.err x M) e k = .er x e M := rfl
@[simp] theorem rOs_bad (e : En) (k : List Val → Mem → O) : rOs .bad e k = .bad := rfl

section
variable {X : Cx} {W : WX} {e a b c : Expr} {es rest : List Expr} {f g h : EF} {p q : BF} {pos : Pos} {st : Stmt} {sts : List Stmt} {F G : SF}
theorem liftS_bind {k : En → Val → Mem → O} {mg : Mg} {D : Ends} {σ : L2.St} {H : Hp} {Q : VK} (h : liftS mg W (fun e M => rO (f e M) e (k e)) D σ H)
    (hk : ∀ ρ env M H1 u v, Es mg ρ env M σ H1 → RepV mg ρ M H1 u v → KontS mg ρ M H1 (k env v M) D W → Q u H1) : lift mg W f σ H Q := by
  obtain ⟨ρ, env, M, es, h⟩ := h
  exact ⟨ρ, env, M, es, (Kont.toS es h).mono (fun u H1 ⟨ρ1, M1, v, s, es1, r, q⟩ => hk ρ1 env M1 H1 u v es1 r q) fun _ _ _ z => z⟩
/-! ### blocks, small statements -/
def sNil : SF := fun e M => .nx e M
def sSeq (F G : SF) : SF := fun e M => match F e M with
  | .nx e' M' => G e' M'
  | o => o
theorem vss_nil : VSs X W [] sNil := pss_imp pss_nil fun D σ H ⟨ρ, env, M, es, h⟩ => h ρ σ H .refl es
theorem vss_cons (hs : VS X W st F) (hr : VSs X W sts G) : VSs X W (st :: sts) (sSeq F G) := pss_imp (pss_cons hs hr) fun D σ H ⟨ρ, env, M, es, h⟩ => by
  refine ⟨ρ, env, M, es, ?_⟩
  unfold sSeq at h
  revert h
  cases F env M with
  | nx e1 M1 => exact fun h ρ1 σ1 H1 s1 es1 => ⟨ρ1, e1, M1, es1, h.from s1⟩
  | rt v M1 => exact fun h => h
  | bk e1 M1 => exact fun h => h
  | ct e1 M1 => exact fun h => h
  | er x e1 M1 => exact fun h => h
  | bad => exact fun h => h
theorem vss_one (hs : VS X W st F) : VSs X W [st] F := pss_one hs
def sBrk : SF := fun e M => .bk e M
def sCont : SF := fun e M => .ct e M
theorem vs_pass : VS X W (.Pass pos) sNil := ps_imp ps_pass fun D σ H ⟨ρ, env, M, es, h⟩ => h ρ σ H .refl es
theorem vs_break : VS X W (.Break pos) sBrk := ps_imp ps_break fun D σ H ⟨ρ, env, M, es, h⟩ => h ρ σ H .refl es
theorem vs_continue : VS X W (.Continue pos) sCont := ps_imp ps_continue fun D σ H ⟨ρ, env, M, es, h⟩ => h ρ σ H .refl es
def sExpr (f : EF) : SF := fun e M => rO (f e M) e fun _ M1 => .nx e M1
theorem vs_expr (he : VE X W e f) (hs : swapsWith e none pos.line X.env = pure false := by rfl) : VS X W (.Expr e pos) (sExpr f) := ps_imp (ps_expr he hs) fun D σ H h =>
  liftS_bind h fun ρ env M H1 u v es rv q => q ρ σ H1 .refl es
def sRet (f : EF) : SF := fun e M => rO (f e M) e fun v M1 => .rt v M1
theorem vs_ret (he : VE X W e f) : VS X W (.Return (some e) pos) (sRet f) := ps_imp (ps_ret he) fun D σ H h =>
  liftS_bind h fun ρ env M H1 u v es rv q => q ρ u H1 .refl es.gs rv
def sRetN : SF := fun _ M => .rt (.d .non) M
theorem vs_retN : VS X W (.Return none pos) sRetN := ps_imp ps_retN fun D σ H ⟨ρ, env, M, es, h⟩ => h ρ .non H .refl es.gs rfl
def sIf (p : BF) (F G : SF) : SF := fun e M => rOb (p e M) e fun b M1 => if b = true then F e M1 else G e M1
theorem vs_if {xs ys : List Stmt} (hc : VT X W c p) (ha : VSs X W xs F) (hb : VSs X W ys G) : VS X W (.If c xs ys pos) (sIf p F G) := ps_imp (ps_if hc ha hb) fun D σ H ⟨ρ, env, M, es, h⟩ => by
  refine ⟨ρ, env, M, es, (Kontb.toS es h).mono (fun u H1 ⟨ρ1, M1, s1, es1, q⟩ => ?_) fun _ _ _ z => z⟩
  cases u with
  | true => exact ⟨ρ1, env, M1, es1, q⟩
  | false => exact ⟨ρ1, env, M1, es1, q⟩
/-- name = value -/
def sSet (i : Nat) (f : EF) : SF := fun e M => rO (f e M) e fun v M1 => .nx (e.set i (some v)) M1
theorem vs_set (i : Nat) {x : Str} {pos' : Pos} (he : VE X W e f) (hN : X.N.Nodup) (hi : X.N[i]? = some x := by rfl) (hx : Loc X.env.scope x := by first | exact .inl rfl | exact .inr rfl) (hs : swapsWith e (some (.Name x pos')) pos.line X.env = pure false := by rfl)
    (hf : X.fn x = true ∨ X.env.scope.names.lookup x = some .local := by first | exact .inl rfl | exact .inr rfl) : VS X W (.Assign [.Name x pos'] e pos) (sSet i f) := ps_imp (ps_set hN hi hx he hs hf) fun D σ H h =>
  liftS_bind h fun ρ env M H1 u v es rv q => q ρ _ H1 .refl (es.set rv)
/-- a, b = x, y -/
def sPar (i j : Nat) (fs : En → Mem → R (List Val)) : SF := fun e M => rOs (fs e M) e fun vs M1 => match vs with
  | [v, w] => .nx ((e.set i (some v)).set j (some w)) M1
  | _ => .bad
theorem vs_par (i j : Nat) {x y : Str} {px py pt : Pos} {kt k2 pt2} {fs : En → Mem → R (List Val)} (ha : VA X W [a, b] fs) (hc : X.calm = true) (hN : X.N.Nodup) (hi : X.N[i]? = some x := by rfl) (hj : X.N[j]? = some y := by rfl) (hij : i ≠ j := by decide)
    (hx : X.env.scope.names.lookup x = some .local := by rfl) (hy : X.env.scope.names.lookup y = some .local := by rfl)
    (hw : swappedStores [.Tuple [.Name x px, .Name y py] kt pt] (.Tuple [a, b] k2 pt2) X.env = pure (some [x, y]) := by rfl)
    (hs : swapsWithSole [.Tuple [.Name x px, .Name y py] kt pt] (.Tuple [a, b] k2 pt2) pos.line X.env = pure false := by rfl) :
    VS X W (.Assign [.Tuple [.Name x px, .Name y py] kt pt] (.Tuple [a, b] k2 pt2) pos) (sPar i j fs) := ps_imp (ps_par hc hN hi hj hij hx hy ha hw hs) fun D σ H ⟨ρ, env, M, es, h⟩ => by
  refine ⟨ρ, env, M, es, (Konts.toS es h).mono (fun u H1 ⟨ρ1, M1, v, s1, es1, r, q⟩ => ?_) fun _ _ _ z => z⟩
  split at q
  · rename_i v w
    obtain ⟨u1, r1, rfl, h1, u2, r2, rfl, h2, e2⟩ := r
    cases e2
    exact ⟨u1, u2, rfl, q ρ1 _ H1 .refl ((es1.set h1).set h2)⟩
  · exact q.elim
/-- a, b, c = x, y, z -/
def sPar3 (i j l : Nat) (fs : En → Mem → R (List Val)) : SF := fun e M => rOs (fs e M) e fun vs M1 => match vs with
  | [v, w, z] => .nx (((e.set i (some v)).set j (some w)).set l (some z)) M1
  | _ => .bad
/-! ### targets by data -/
/-- the slots at ix alone are stored -/
def Apart (ix : List Nat) (σ σ' : L2.St) : Prop := σ'.length = σ.length ∧ ∀ i, i ∉ ix → σ'[i]? = σ[i]?
theorem Apart.refl {ix : List Nat} {σ : L2.St} : Apart ix σ σ := ⟨rfl, fun _ _ => rfl⟩
def liftG (mg : Mg) (ix : List Nat) (t : D → En → Option En) : TG := fun v σ H Q => ∃ ρ env M d e', Es mg ρ env M σ H ∧ Rep mg (SM ρ M) H v d ∧ t d env = some e' ∧ ∀ σ', Apart ix σ σ' → Es mg ρ e' M σ' H → Q σ' H
def VG (X : Cx) (ix : List Nat) (tg : Expr) (t : D → En → Option En) : Prop := PG X tg (liftG (gm X) ix t)
theorem pg_imp {tg : Expr} {t t' : TG} (h : PG X tg t) (k : ∀ v σ H Q, t' v σ H Q → t v σ H Q) : PG X tg t' := ⟨fun pins s σ H v u Q I r q => h.run pins s σ H v u Q I r (k v σ H Q q)⟩
theorem PG.or {tg : Expr} {t t' : TG} (h : PG X tg t) (h' : PG X tg t') : PG X tg (fun v σ H Q => t v σ H Q ∨ t' v σ H Q) := ⟨fun pins s σ H v u Q I r q => q.elim (h.run pins s σ H v u Q I r) (h'.run pins s σ H v u Q I r)⟩
def tName (i : Nat) : D → En → Option En := fun d e => some (e.set i (some (.d d)))
theorem vg_name (i : Nat) {x : Str} (hN : X.N.Nodup) (hi : X.N[i]? = some x := by rfl) (hx : Loc X.env.scope x := by first | exact .inl rfl | exact .inr rfl) (hf : X.fn x = true ∨ X.env.scope.names.lookup x = some .local := by first | exact .inl rfl | exact .inr rfl) : VG X [i] (.Name x pos) (tName i) :=
  pg_imp (pg_name hN hi hx hf) fun v σ H Q ⟨ρ, env, M, d, e', es, r, et, q⟩ => by
    cases et
    exact q _ ⟨by simp, fun j hj => List.getElem?_set_ne (by intro z; exact hj (by simp [z]))⟩ (es.set (v := .d d) r)
def VGs (X : Cx) (ix : List Nat) (ts : List Expr) (t : List D → En → Option En) : Prop := PGs X ts (fun vs σ H Q => ∃ ρ env M ds e', Es (gm X) ρ env M σ H ∧ RepL (gm X) (SM ρ M) H vs ds ∧ t ds env = some e' ∧ ∀ σ', Apart ix σ σ' → Es (gm X) ρ e' M σ' H → Q σ' H)
theorem pgs_imp {tg : List Expr} {t t' : TGs} (h : PGs X tg t) (k : ∀ v σ H Q, t' v σ H Q → t v σ H Q) : PGs X tg t' := ⟨fun pins s σ H v u Q I r q => h.run pins s σ H v u Q I r (k v σ H Q q)⟩
def tNils : List D → En → Option En
  | [], e => some e
  | _, _ => none
def tCons2 (t : D → En → Option En) (ts : List D → En → Option En) : List D → En → Option En
  | d :: ds, e => (t d e).bind (ts ds)
  | _, _ => none
theorem vgs_nil : VGs X [] [] tNils := pgs_imp pgs_nil fun vs σ H Q ⟨ρ, env, M, ds, e', es, r, et, q⟩ => by
  cases ds with
  | nil => cases r; cases et; exact ⟨rfl, q _ .refl es⟩
  | cons _ _ => cases et
theorem vgs_cons {ia ib : List Nat} {t : D → En → Option En} {ts : List D → En → Option En} (ha : VG X ia e t) (hb : VGs X ib es ts) (hs : (assignEach (e :: es) X.env).map (·.2) = assign e X.env :: (assignEach es X.env).map (·.2) := by rfl) : VGs X (ia ++ ib) (e :: es) (tCons2 t ts) :=
  pgs_imp (pgs_cons ha hb hs) fun vs σ H Q ⟨ρ, env, M, ds, e', es, r, et, q⟩ => by
    cases ds with
    | nil => cases et
    | cons d ds =>
      obtain ⟨u, us, rfl, r1, r2⟩ := r
      simp only [tCons2, Option.bind_eq_some_iff] at et
      obtain ⟨e1, et1, et2⟩ := et
      exact ⟨u, us, rfl, ρ, env, M, d, e1, es, r1, et1, fun σ1 a1 es1 => ⟨ρ, e1, M, ds, e', es1, r2, et2, fun σ2 a2 es2 => q σ2 ⟨a2.1.trans a1.1, fun i hi => (a2.2 i fun z => hi (List.mem_append_right _ z)).trans (a1.2 i fun z => hi (List.mem_append_left _ z))⟩ es2⟩⟩
def tTup (n : Nat) (ts : List D → En → Option En) : D → En → Option En
  | .tup ds, e => if ds.length = n then ts ds e else none
  | .lst ds, e => if ds.length = n then ts ds e else none
  | _, _ => none
theorem vg_tup {k n : Nat} {ix : List Nat} {ts : List D → En → Option En} (hc : X.calm = true) (h : VGs X ix es ts) (hn : (assignEach es X.env).length = n := by rfl) (hst : (assignEach es X.env).findIdx? (·.1) = none := by rfl) : VG X ix (.Tuple es k pos) (tTup n ts) :=
  pg_imp (PG.or (pg_tup hc h hn hst) (pg_lst hc h hn hst)) fun v σ H Q ⟨ρ, env, M, d, e', es, r, et, q⟩ => by
    unfold tTup at et
    split at et
    · split at et
      · rename_i hl
        obtain ⟨a, us, rfl, h, n, l1⟩ := r
        exact .inl ⟨a, us, rfl, .inl h, by rw [RepL.length l1]; exact hl, ρ, env, M, _, e', es, l1, et, q⟩
      · cases et
    · split at et
      · rename_i hl
        obtain ⟨a, us, rfl, h, n, l1⟩ := r
        exact .inr ⟨a, us, rfl, .inl (.inl h), by rw [RepL.length l1]; exact hl, ρ, env, M, _, e', es, l1, et, q⟩
      · cases et
    · cases et
/-- a, b = a value -/
def sUnp (t : D → En → Option En) (f : EF) : SF := fun e M => rO (f e M) e fun v M1 => match v with
  | .d x => (match t x e with
    | some e' => .nx e' M1
    | none => .bad)
  | _ => .bad
theorem vs_unp {tg : Expr} {ix : List Nat} {t : D → En → Option En} (he : VE X W e f) (hg : VG X ix tg t) (hs : swapsWithSole [tg] e pos.line X.env = pure false := by rfl) (hw : swappedStores [tg] e X.env = pure none := by rfl)
    (h1 : (assignEach [tg] X.env).map (·.2) = [assign tg X.env] := by rfl) : VS X W (.Assign [tg] e pos) (sUnp t f) := ps_imp (ps_asg he hg hs hw h1) fun D σ H h =>
  liftS_bind h fun ρ env M H1 u v es rv q => by
    split at q
    · rename_i x
      split at q
      · rename_i e' et
        exact ⟨ρ, env, M, x, e', es, rv, et, fun σ' _ es' => q ρ σ' H1 .refl es'⟩
      · exact q.elim
    · exact q.elim
/-! ### while, by fuel -/
def whileF (p : BF) (F : SF) : Nat → SF
  | 0 => fun _ _ => .bad
  | n + 1 => fun e M => rOb (p e M) e fun b M1 => if b = true then (match F e M1 with
      | .nx e' M' => whileF p F n e' M'
      | .ct e' M' => whileF p F n e' M'
      | .bk e' M' => .nx e' M'
      | o => o) else .nx e M1
theorem vs_while (n : Nat) (hp : PassesOwn (model X.prog X.w) X.A X.env X.xe) (hc : VT X W c p) (hb : VSs X W sts F) : VS X W (.While c sts [] pos) (whileF p F n) := ps_imp (ps_while hp hc hb) fun D σ H ⟨ρ, env, M, es, h⟩ => by
  refine ⟨fun m σ H => ∃ ρ env M, Es (gm X) ρ env M σ H ∧ KontS (gm X) ρ M H (whileF p F m env M) D W, ⟨n, ρ, env, M, es, h⟩, fun m σ1 H1 ⟨ρ1, env1, M1, es1, q1⟩ => ?_⟩
  cases m with
  | zero => exact q1.elim
  | succ m =>
    refine ⟨ρ1, env1, M1, es1, (Kontb.toS es1 q1).mono (fun u H2 ⟨ρ2, M2, s2, es2, q2⟩ => ?_) fun _ _ _ z => z⟩
    cases u with
    | false =>
      rw [if_neg Bool.false_ne_true]
      exact q2 ρ2 σ1 H2 .refl es2
    | true =>
      rw [if_pos rfl]
      refine ⟨fun σ' H' => ∃ ρ env M, Es (gm X) ρ env M σ' H' ∧ KontS (gm X) ρ M H' (whileF p F m env M) D W, fun σ' H' h' => ⟨m, Nat.lt_succ_self _, h'⟩, ρ2, env1, M2, es2, ?_⟩
      rw [if_pos rfl] at q2
      revert q2
      cases F env1 M2 with
      | nx e1 M3 => exact fun q2 ρ3 σ3 H3 s3 es3 => ⟨ρ3, e1, M3, es3, q2.from s3⟩
      | ct e1 M3 => exact fun q2 ρ3 σ3 H3 s3 es3 => ⟨ρ3, e1, M3, es3, q2.from s3⟩
      | bk e1 M3 => exact fun q2 => q2
      | rt v M3 => exact fun q2 => q2
      | er x e1 M3 => exact fun q2 => q2
      | bad => exact fun q2 => q2
end
end Vl
set_option Elab.async false
set_option linter.all false
set_option maxRecDepth 100000
/-! Vl7a: enumerate over a tuple. -/
namespace Vl
open PySem PySem.Spec PyProof.Rows L2
section
variable {X : Cx}
def enumT0 (l : Addr) (h : Heap) : Heap := h.push { cls := .type "tuple_iterator", data := .fields #[.ref l, .int 0 0] }
def enumT1 (l : Addr) (h : Heap) : Heap := (enumT0 l h).push { cls := .type "enumerate", data := .fields #[.none, .bool false, .ref h.objs.size, rawInt 0, .none, .none] }
theorem newEnumT (l : Addr) (items : Array Value) : Meets (Builtin.«enumerate.__new__» ⟨[.type "enumerate", .ref l], []⟩) (fun _ R s => s.heap.IsTuple l items ∧ R (.ok (.ret (.ref (enumT0 l s.heap).objs.size))) { s with heap := enumT1 l s.heap }) :=
  .of_wp fun prog w A R s hh => by
    obtain ⟨hp, g, d, tk, os⟩ := s
    obtain ⟨hl, hh⟩ := hh
    have hsub := sub_enumerate
    have go : ∀ {B : Around} {E : Value → Shared → Prop} {Q : Value → Shared → Prop}, Q (.ref hp.objs.size) ⟨enumT0 l hp, g, d, tk, os⟩ → wpAny (model prog w) B (pyIter (.ref l)) Q E ⟨hp, g, d, tk, os⟩ := fun q => wpAny_pyIter_tuple (s := ⟨hp, g, d, tk, os⟩) hl q
    wp_walk using go
    refine wpAny_stack_any fun st0 => wpAny_pure ?_
    split
    · rename_i c0 _ _ _ _ _
      cases (c0 == Value.type "enumerate") <;> (wp_walk using go; exact ⟨_, rfl, hh⟩)
    · wp_walk using go
      exact ⟨_, rfl, hh⟩
theorem callEnumT {prog : Program} {w : World} {A : Around} {E : Value → Shared → Prop} {s : Shared} {l : Addr} {items : Array Value} {Q : Value → Shared → Prop} (hT : s.heap.IsTuple l items)
    (k : ∀ h', IsEnum h' (s.heap.objs.size + 1) s.heap.objs.size 0 .none → h'.IsTupleIter s.heap.objs.size l 0 → h'.objs.size = s.heap.objs.size + 2 →
      (∀ b o, s.heap.get? b = some o → h'.get? b = some o) → Q (.ref (s.heap.objs.size + 1)) { s with heap := h' }) : wpAny (model prog w) A (call (.type "enumerate") [.ref l]) Q E s := by
  refine callType_new F.called_enumerate (by decide) (F.typeCall_enumerate_1 _) (F.newCall_enumerate_1 _) (fun ob => F.args_object_init_2 ob _) F.entry_enumerate_new (newEnumT l items) ⟨hT, ?_⟩
  have hz : (enumT0 l s.heap).objs.size = s.heap.objs.size + 1 := Heap.size_push ..
  show _ ∧ _
  rw [hz]
  have e1 : IsEnum (enumT1 l s.heap) (s.heap.objs.size + 1) s.heap.objs.size 0 .none := by
    have q := Heap.get?_push_size (enumT0 l s.heap) (o := { cls := .type "enumerate", data := .fields #[.none, .bool false, .ref s.heap.objs.size, rawInt 0, .none, .none] }) rfl
    rw [hz] at q
    exact q
  refine ⟨⟨_, e1, rfl⟩, k _ e1 ⟨_, Heap.get?_push_of_some _ (Heap.get?_push_size _ rfl), rfl, rfl⟩ ?_ fun b o z => Heap.get?_push_of_some _ (Heap.get?_push_of_some _ z)⟩
  unfold enumT1
  rw [Heap.size_push, hz]
/-- the tuple at a, each item in a new pair -/
def ItET (K : PySem.W.Frag) (a : Addr) : It where
  go := fun i H => ∃ (us : List V) (x : V), SqT K H a us ∧ us[i]? = some x
  yld := fun i H v H' => ∃ T x, v = .ref T ∧ H T = none ∧ H' = upd H T (.tup [.int (i : Nat), x]) ∧ ∀ us, SqT K H a us → us[i]? = some x
  stop := fun i H => ∃ us : List V, SqT K H a us ∧ us.length = i
theorem turnET {P : Program} {w : World} {K : PySem.W.Frag} {elts : List Expr} {kk : Nat} {tpos : Pos} (a e it : Addr) (ha : a ≠ it) (hea : e ≠ a) :
    Turn P w K (.Tuple elts kk tpos) (ItET K a) [e, it] e (fun i h => (∃ old, IsEnum h e it ((i : Nat) : Int) old) ∧ h.IsTupleIter it a i ∧ e ≠ it) where
  mem := by simp
  obj := fun i h ⟨⟨old, he⟩, ⟨o, ho, hc, hd⟩, _⟩ b hb => by
    rcases (show b = e ∨ b = it by simpa using hb) with z | z
    · subst z; exact ⟨_, he, fun v q => nomatch q⟩
    · subst z; exact ⟨o, ho, fun v q => by rw [hd] at q; cases q⟩
  keep := fun i h h' ⟨⟨old, he⟩, hi, hne⟩ k => ⟨⟨old, k e (by simp) _ he⟩, hi.at fun o q => k it (by simp) o q, hne⟩
  item := by
    intro X hP hw hK hc i pins s σ H E I hf st hg
    subst hP hw hK
    obtain ⟨⟨old, he⟩, hit, hne⟩ := st
    obtain ⟨us, x, hq, hx⟩ := hg
    obtain ⟨its, rv, p, hz⟩ := I.tuple hq
    obtain ⟨u, hu, ru⟩ := rv.get hx
    have hel : e < s.heap.objs.size := Heap.lt_size he
    have hil : it < s.heap.objs.size := by obtain ⟨_, q, _⟩ := hit; exact Heap.lt_size q
    have hlt : i < its.toArray.size := by simpa using (List.getElem?_eq_some_iff.mp hu).1
    refine wpAny_pyNext_enum_itemD (Draws.tuple (prog := X.prog) (w := X.w) (A := X.A.in1) (I.ok.hd hc) it a ha its.toArray) he ⟨hit, p⟩ hlt hne (by simp; exact ⟨hne, hea⟩) fun x1 h' tk hP1 ho hst hT hsz hk => ?_
    have ex : x1 = u := by
      have q : its.toArray[i]? = some u := by simpa using hu
      exact Option.some.inj (hP1.symm.trans q)
    subst ex
    refine ⟨_, rfl, wpAny_letOwnedTupleGo_enum (s := { s with heap := h', toks := tk + 1 }) ho fun h2 he2 sb => ?_⟩
    have hT2 : h2.get? s.heap.objs.size = some { cls := .type "tuple", data := .seq #[.int i tk, x1] } := (sb.2 _ (Nat.ne_of_gt hel)).trans hT
    have nw : ObjOk X.prog X.w (upd H s.heap.objs.size (.tup [.int (i : Nat), x])) h2 s.heap.objs.size (.tup [.int (i : Nat), x]) :=
      ⟨by show 2 ≤ sizeLine; decide, [.int i tk, x1], .cons ⟨_, rfl⟩ (.cons ru .nil), ⟨_, hT2, rfl, _, rfl⟩⟩
    have J : Inv X pins σ (upd H s.heap.objs.size (.tup [.int (i : Nat), x])) { s with heap := h2, toks := tk + 1 } :=
      I.turnedNew (ch := [e, it]) (fun b ob hb q => (sb.2 b (fun z => hb (by simp [z]))).trans (hk b ob (fun z => hb (by simp [z])) (fun z => hb (by simp [z])) q)) hf (Nat.le_refl _) nw
    refine ⟨.ref s.heap.objs.size, _, J, rfl, ⟨_, x, rfl, I.hok.fresh (Nat.le_refl _), rfl, fun ys hy => by rw [I.tuple_inj hy hq]; exact hx⟩, ⟨⟨x1, ?_⟩, hst.1.at fun o q => (sb.2 it (Ne.symm hne)).trans q, hne⟩, fun b hb => ?_⟩
    · rw [show ((i + 1 : Nat) : Int) = (i : Int) + 1 by omega]
      exact he2
    · have hb' : b < s.heap.objs.size := by
        rcases (show b = e ∨ b = it by simpa using hb) with z | z
        · rw [z]; exact hel
        · rw [z]; exact hil
      rw [upd_ne (Nat.ne_of_lt hb')]
      exact (hf b hb).1
  done := by
    intro X hP hw hK hc i pins s σ H E I hf st hg
    subst hP hw hK
    obtain ⟨⟨old, he⟩, hit, hne⟩ := st
    obtain ⟨us, hq, hx⟩ := hg
    obtain ⟨its, rv, p, hz⟩ := I.tuple hq
    obtain ⟨f0, f1, f2, f3, f4, f5⟩ := hf it (by simp)
    have hl := rv.length
    have D0 := Draws.tuple (prog := X.prog) (w := X.w) (A := X.A.in1) (I.ok.hd hc) it a ha its.toArray
    have hn : its.toArray.size = i := by simp; omega
    rw [hn] at D0
    exact wpAny_pyNext_enum_endD D0 he ⟨hit, p⟩ fun h' eb => ⟨rfl, I.turned (t' := s.toks) (fun b o hb q => eb b o hb q) f0 f1 f3 f4 f5⟩
  self := fun A i s Q E ⟨⟨_, he⟩, _⟩ q => wpAny_pyIter_enum he q
/-- enumerate(..) of a tuple -/
theorem pi_enumT {e : Expr} {ta : TA} {p pos tpos : Pos} {elts : List Expr} {kk : Nat} (hg : Gl X "enumerate") (hm : X.mg "enumerate" = none) (ha : PA X [e] ta) (hs : starEach [e] X.env = [(false, eval e X.env)] := by rfl) :
    PI X (.Tuple elts kk tpos) (.Call (.Name "enumerate" p) [e] [] pos) (fun σ H R => ta σ H fun vs H1 => ∃ a us, vs = [.ref a] ∧ SqT X.K H1 a us ∧ R (ItET X.K a) H1) := by
  refine ⟨fun pins s σ H R I hh => ?_⟩
  refine Call_ (ld_blt I hg hm boot_enumerate (PyProof.Rows.callWith_type1 (thn (ha.run pos pins s σ H _ I hh) fun ws s1 ⟨vs, H1, I1, r1, q1⟩ => ?_) hs rfl))
  obtain ⟨a, us, ex, hq, q⟩ := q1
  subst ex
  cases r1 with
  | cons r rr =>
    cases rr
    cases r
    obtain ⟨its, rv, p', hz⟩ := I1.tuple hq
    have hal : a < s1.heap.objs.size := p'.lt
    refine callEnumT p' fun h' he hit hsz hk => wpAny_pyIter_enum he ?_
    have I2 : Inv X pins σ H1 { s1 with heap := h' } := I1.kept (t' := s1.toks) hk
    refine ⟨s1.heap.objs.size + 1, [s1.heap.objs.size + 1, s1.heap.objs.size], _, _, H1, rfl, I2, turnET a (s1.heap.objs.size + 1) s1.heap.objs.size (Nat.ne_of_lt hal) (Nat.ne_of_gt (Nat.lt_succ_of_lt hal)), ⟨⟨.none, he⟩, hit, Nat.succ_ne_self _⟩, fun b hb => ?_, q⟩
    have hle : s1.heap.objs.size ≤ b := by
      rcases (show b = s1.heap.objs.size + 1 ∨ b = s1.heap.objs.size by simpa using hb) with z | z
      · rw [z]; exact Nat.le_succ _
      · rw [z]; exact Nat.le_refl _
    exact I1.fpOk hle (I1.hok.fresh hle)
end
end Vl
set_option Elab.async false
set_option linter.all false
set_option maxRecDepth 100000
/-! Vl7: what is walked; for; comprehensions. -/
namespace Vl
open PySem PySem.Spec PyProof.Rows L2

/-- what is walked: its items, and what of the store must stay -/
structure Iv where
  l : List D
  chk : Mem → Prop
structure ItOk (mg : Mg) (ρ : Rho) (M : Mem) (H : Hp) (J : It) (v : Iv) : Prop where
  go : ∀ i ρ2 M2 H2, Stw ρ M H ρ2 M2 H2 → Gs mg ρ2 M2 H2 → v.chk M2 → i < v.l.length → J.go i H2
  stop : ∀ ρ2 M2 H2, Stw ρ M H ρ2 M2 H2 → Gs mg ρ2 M2 H2 → v.chk M2 → J.stop v.l.length H2
  yld : ∀ i ρ2 M2 H2 x H3, Stw ρ M H ρ2 M2 H2 → Gs mg ρ2 M2 H2 → v.chk M2 → i < v.l.length → J.yld i H2 x H3 → Same H2 H3 ∧ ∃ d, v.l[i]? = some d ∧ Rep mg (SM ρ2 M2) H3 x d
def KontI (mg : Mg) (ρ : Rho) (M : Mem) (H : Hp) (r : R Iv) (K : It → Hp → Prop) (E : XK) : Prop := match r with
  | .ok v M' => v.chk M' ∧ ∀ ρ' H' J, Stp ρ M H ρ' M' H' → Gs mg ρ' M' H' → ItOk mg ρ' M' H' J v → K J H'
  | .err x M' => ∀ ρ' cls d H', Stp ρ M H ρ' M' H' → Gs mg ρ' M' H' → RepX mg ρ' M' H' cls d x → E cls d H'
  | .bad => False
def liftI (mg : Mg) (W : WX) (fi : En → Mem → R Iv) : TI := fun σ H K => ∃ ρ env M, Es mg ρ env M σ H ∧ KontI mg ρ M H (fi env M) K (fun c d H' => W c d σ H')
theorem KontI.from {mg : Mg} {ρ ρ' : Rho} {M M' : Mem} {H H' : Hp} {r : R Iv} {K : It → Hp → Prop} {E : XK} (s : Stp ρ M H ρ' M' H') (h : KontI mg ρ M H r K E) : KontI mg ρ' M' H' r K E := by
  cases r with
  | ok v M2 => exact ⟨h.1, fun ρ2 H2 J s2 g i => h.2 ρ2 H2 J (s.trans s2) g i⟩
  | err x M2 => exact fun ρ2 c d H2 s2 g r => h ρ2 c d H2 (s.trans s2) g r
  | bad => exact h
theorem KontI.bind {mg : Mg} {ρ : Rho} {M : Mem} {H : Hp} {r : R Val} {k : Val → Mem → R Iv} {K : It → Hp → Prop} {E : XK} (h : KontI mg ρ M H (rbind r k) K E) :
    Kont mg ρ M H r (fun u H1 => ∃ ρ1 M1 v, Stp ρ M H ρ1 M1 H1 ∧ Gs mg ρ1 M1 H1 ∧ RepV mg ρ1 M1 H1 u v ∧ KontI mg ρ1 M1 H1 (k v M1) K E) E := by
  cases r with
  | ok v M2 => exact fun ρ2 u H2 s2 g rv => ⟨ρ2, M2, v, s2, g, rv, h.from s2⟩
  | err x M2 => exact h
  | bad => exact h
theorem KontI.binds {mg : Mg} {ρ : Rho} {M : Mem} {H : Hp} {r : R (List Val)} {k : List Val → Mem → R Iv} {K : It → Hp → Prop} {E : XK} (h : KontI mg ρ M H (rbind r k) K E) :
    Konts mg ρ M H r (fun u H1 => ∃ ρ1 M1 v, Stp ρ M H ρ1 M1 H1 ∧ Gs mg ρ1 M1 H1 ∧ RepVs mg ρ1 M1 H1 u v ∧ KontI mg ρ1 M1 H1 (k v M1) K E) E := by
  cases r with
  | ok v M2 => exact fun ρ2 u H2 s2 g rv => ⟨ρ2, M2, v, s2, g, rv, h.from s2⟩
  | err x M2 => exact h
  | bad => exact h
def VI (X : Cx) (W : WX) (tg iter : Expr) (fi : En → Mem → R Iv) : Prop := PI X tg iter (liftI (gm X) W fi)
section
variable {X : Cx} {W : WX} {e a b c tg iter : Expr} {es rest : List Expr} {f g h : EF} {p q : BF} {pos : Pos} {st : Stmt} {sts : List Stmt} {F G : SF} {fs : En → Mem → R (List Val)}
theorem pi_imp {w w' : TI} (h : PI X tg iter w) (k : ∀ σ H K, w' σ H K → w σ H K) : PI X tg iter w' := ⟨fun pins s σ H K I q => h.run pins s σ H K I (k σ H K q)⟩
theorem PI.or {w w' : TI} (h : PI X tg iter w) (h' : PI X tg iter w') : PI X tg iter (fun σ H K => w σ H K ∨ w' σ H K) := ⟨fun pins s σ H K I q => q.elim (h.run pins s σ H K I) (h'.run pins s σ H K I)⟩

/-! ### sequences -/
def ivSeq (v : Val) (l : List D) : Iv := ⟨l, match v with
  | .d _ => fun _ => True
  | .obj k => fun M => M[k]? = some (.lst l)
  | .exc _ => fun _ => True⟩
def iSeq (f : EF) : En → Mem → R Iv := fun e M => rbind (f e M) fun v M1 => match rdS M1 v with
  | some l => .ok (ivSeq v l) M1
  | none => .bad
theorem ivSeq_chk {M : Mem} {v : Val} {l : List D} (h : rdS M v = some l) : (ivSeq v l).chk M := by
  cases v with
  | d x => trivial
  | exc x => trivial
  | obj k =>
    show M[k]? = some (.lst l)
    unfold rdS rdT rdL plL at h
    dsimp only at h
    split at h
    · rename_i el; cases h; exact el
    · cases h
theorem ivSeq_rd {M M2 : Mem} {v : Val} {l : List D} (h : rdS M v = some l) (c : (ivSeq v l).chk M2) : rdS M2 v = some l := by
  cases v with
  | d x => cases x <;> exact h
  | exc x => cases h
  | obj k =>
    have c : M2[k]? = some (.lst l) := c
    unfold rdS rdT rdL plL
    dsimp only
    rw [c]
theorem rdT_none {v : Val} {M : Mem} {l : List D} (h : rdT v = none) (e : rdS M v = some l) : rdL M v = some l := by
  unfold rdS at e
  rw [h] at e
  exact e
theorem ItOk.list {mg : Mg} {ρ : Rho} {M : Mem} {H : Hp} {v : Val} {l : List D} {a : Addr} (hv : rdT v = none) (e : rdS M v = some l) (r : RepV mg ρ M H (.ref a) v) : ItOk mg ρ M H (Itl mg.K a) (ivSeq v l) := by
  have key : ∀ {ρ2 M2 H2}, Stw ρ M H ρ2 M2 H2 → Gs mg ρ2 M2 H2 → (ivSeq v l).chk M2 → ∃ us, SqL mg.K H2 a us ∧ RepL mg (SM ρ2 M2) H2 us l := fun {ρ2 M2 H2} s g c => by
    obtain ⟨a', us, ea, hq, rl⟩ := rdL_rep g (r.stw s) (rdT_none hv (ivSeq_rd e c))
    cases ea
    exact ⟨us, hq, rl⟩
  refine ⟨fun i ρ2 M2 H2 s g c hi => ?_, fun ρ2 M2 H2 s g c => ?_, fun i ρ2 M2 H2 x H3 s g c hi y => ?_⟩
  · obtain ⟨us, hq, rl⟩ := key s g c
    obtain ⟨u, eu, _⟩ := rl.get (List.getElem?_eq_getElem hi)
    exact ⟨us, u, hq, eu⟩
  · obtain ⟨us, hq, rl⟩ := key s g c
    exact ⟨us, hq, Nat.le_of_eq (RepL.length rl)⟩
  · obtain ⟨us, hq, rl⟩ := key s g c
    obtain ⟨u, eu, ru⟩ := rl.get (List.getElem?_eq_getElem hi)
    obtain ⟨e3, y⟩ := y
    subst e3
    have := y us hq
    rw [eu] at this
    cases this
    exact ⟨.refl _, _, List.getElem?_eq_getElem hi, ru⟩
theorem ItOk.tup {mg : Mg} {ρ : Rho} {M : Mem} {H : Hp} {v : Val} {l : List D} {a : Addr} (hv : rdT v = some l) (r : RepV mg ρ M H (.ref a) v) : ItOk mg ρ M H (Itt mg.K a) (ivSeq v l) := by
  have key : ∀ {ρ2 M2 H2}, Stw ρ M H ρ2 M2 H2 → ∃ us, SqT mg.K H2 a us ∧ RepL mg (SM ρ2 M2) H2 us l := fun {ρ2 M2 H2} s => by
    obtain ⟨a', us, ea, hq, rl⟩ := rdT_rep (r.stw s) hv
    cases ea
    exact ⟨us, hq, rl⟩
  refine ⟨fun i ρ2 M2 H2 s g c hi => ?_, fun ρ2 M2 H2 s g c => ?_, fun i ρ2 M2 H2 x H3 s g c hi y => ?_⟩
  · obtain ⟨us, hq, rl⟩ := key s
    obtain ⟨u, eu, _⟩ := rl.get (List.getElem?_eq_getElem hi)
    exact ⟨us, u, hq, eu⟩
  · obtain ⟨us, hq, rl⟩ := key s
    exact ⟨us, hq, Nat.le_of_eq (RepL.length rl)⟩
  · obtain ⟨us, hq, rl⟩ := key s
    obtain ⟨u, eu, ru⟩ := rl.get (List.getElem?_eq_getElem hi)
    obtain ⟨e3, y⟩ := y
    subst e3
    have := y us hq
    rw [eu] at this
    cases this
    exact ⟨.refl _, _, List.getElem?_eq_getElem hi, ru⟩
theorem vi_seq (h : VE X W iter f) : VI X W tg iter (iSeq f) := pi_imp (PI.or (pi_list h) (pi_tup h)) fun σ H K ⟨ρ, env, M, es, q⟩ => by
  unfold iSeq at q
  revert q
  cases hf : f env M with
  | bad => exact fun q => q.elim
  | err x M1 => exact fun q => .inl ⟨ρ, env, M, es, by rw [hf]; exact q⟩
  | ok v M1 =>
    simp only [rbind_ok]
    cases hs : rdS M1 v with
    | none => exact fun q => q.elim
    | some l =>
      intro ⟨c, q⟩
      cases ht : rdT v with
      | some l' =>
        have el : l' = l := by
          unfold rdS at hs
          rw [ht] at hs
          exact Option.some.inj hs
        subst el
        refine .inr ⟨ρ, env, M, es, ?_⟩
        rw [hf]
        intro ρ1 u H1 s1 g1 r1
        obtain ⟨a, us, rfl, hq, rl⟩ := rdT_rep r1 ht
        exact ⟨a, rfl, ⟨us, hq⟩, q ρ1 H1 _ s1 g1 (ItOk.tup ht r1)⟩
      | none =>
        refine .inl ⟨ρ, env, M, es, ?_⟩
        rw [hf]
        intro ρ1 u H1 s1 g1 r1
        obtain ⟨a, us, rfl, hq, rl⟩ := rdL_rep g1 r1 (rdT_none ht hs)
        exact ⟨a, rfl, ⟨us, hq⟩, q ρ1 H1 _ s1 g1 (ItOk.list ht hs r1)⟩

/-! ### ranges -/
def rngD (lo : Int) (n : Nat) : List D := (List.range n).map fun i => .int (lo + (i : Nat))
theorem rngD_length {lo : Int} {n : Nat} : (rngD lo n).length = n := by simp [rngD]
theorem rngD_get {lo : Int} {n i : Nat} (h : i < n) : (rngD lo n)[i]? = some (.int (lo + (i : Nat))) := by
  simp [rngD, h]
def ivRng (lo : Int) (n : Nat) : Iv := ⟨rngD lo n, fun _ => True⟩
theorem ItOk.rng {mg : Mg} {ρ : Rho} {M : Mem} {H : Hp} {lo : Int} {n : Nat} : ItOk mg ρ M H (Itr lo n) (ivRng lo n) := by
  refine ⟨fun i ρ2 M2 H2 s g c hi => ?_, fun ρ2 M2 H2 s g c => ?_, fun i ρ2 M2 H2 x H3 s g c hi y => ?_⟩
  · have hi : i < (rngD lo n).length := hi
    rw [rngD_length] at hi; exact hi
  · show n ≤ (rngD lo n).length
    rw [rngD_length]; exact Nat.le_refl _
  · have hi : i < (rngD lo n).length := hi
    rw [rngD_length] at hi
    obtain ⟨e3, e4⟩ := y
    subst e3
    exact ⟨.refl _, _, rngD_get hi, e4⟩
def smallI (i : Int) : Prop := -(2 ^ 62) ≤ i ∧ i < 2 ^ 62
instance : ∀ i, Decidable (smallI i) := fun i => by unfold smallI; exact inferInstance
def iRng1' (fs : En → Mem → R (List Val)) : En → Mem → R Iv := fun e M => rbind (fs e M) fun vs M1 => match vs with
  | [.d (.int j)] => if smallI j then .ok (ivRng 0 j.toNat) M1 else .bad
  | _ => .bad
def iRng2' (fs : En → Mem → R (List Val)) : En → Mem → R Iv := fun e M => rbind (fs e M) fun vs M1 => match vs with
  | [.d (.int i), .d (.int j)] => if smallI i ∧ smallI j then .ok (ivRng i (j - i).toNat) M1 else .bad
  | _ => .bad
theorem vi_range1 {p pos : Pos} (hg : Gl X "range") (hm : X.mg "range" = none) (ha : VA X W [a] fs) (hs : starEach [a] X.env = [(false, eval a X.env)] := by rfl) : VI X W tg (.Call (.Name "range" p) [a] [] pos) (iRng1' fs) := pi_imp (pi_range1 hg hm ha hs) fun σ H K ⟨ρ, env, M, es, q⟩ => by
  refine ⟨ρ, env, M, es, (KontI.binds q).mono (fun us H1 ⟨ρ1, M1, vs, s1, g1, r1, q1⟩ => ?_) fun _ _ _ z => z⟩
  split at q1
  · rename_i j
    split at q1
    · rename_i hj
      obtain ⟨u, r, rfl, hu, hr⟩ := r1
      cases hr; cases hu
      exact ⟨j, rfl, hj.1, hj.2, q1.2 ρ1 H1 _ .refl g1 ItOk.rng⟩
    · exact q1.elim
  · exact q1.elim
theorem vi_range2 {p pos : Pos} (hg : Gl X "range") (hm : X.mg "range" = none) (ha : VA X W [a, b] fs) (hs : starEach [a, b] X.env = [(false, eval a X.env), (false, eval b X.env)] := by rfl) (hs2 : starEach [b] X.env = [(false, eval b X.env)] := by rfl) : VI X W tg (.Call (.Name "range" p) [a, b] [] pos) (iRng2' fs) := pi_imp (pi_range2 hg hm ha hs hs2) fun σ H K ⟨ρ, env, M, es, q⟩ => by
  refine ⟨ρ, env, M, es, (KontI.binds q).mono (fun us H1 ⟨ρ1, M1, vs, s1, g1, r1, q1⟩ => ?_) fun _ _ _ z => z⟩
  split at q1
  · rename_i i j
    split at q1
    · rename_i hj
      obtain ⟨u, r, rfl, hu, u2, r2, rfl, hu2, hr⟩ := r1
      cases hr; cases hu; cases hu2
      exact ⟨i, j, rfl, ⟨hj.1.1, hj.1.2, hj.2.1, hj.2.2⟩, q1.2 ρ1 H1 _ .refl g1 ItOk.rng⟩
    · exact q1.elim
  · exact q1.elim

/-! ### enumerate, zip, items -/
def enumD : Nat → List D → List D
  | _, [] => []
  | i, x :: r => .tup [.int (i : Nat), x] :: enumD (i + 1) r
theorem enumD_length : ∀ (l : List D) (i : Nat), (enumD i l).length = l.length
  | [], _ => rfl
  | x :: r, i => by simp [enumD, enumD_length r]
theorem enumD_get : ∀ (l : List D) (i j : Nat) (x : D), l[j]? = some x → (enumD i l)[j]? = some (.tup [.int ((i + j : Nat) : Int), x])
  | [], _, _, _, h => by simp at h
  | y :: r, i, 0, x, h => by simp at h; subst h; simp [enumD]
  | y :: r, i, j + 1, x, h => by
    have := enumD_get r (i + 1) j x (by simpa using h)
    simp only [enumD, List.getElem?_cons_succ, this]
    congr 3
    have : i + 1 + j = i + (j + 1) := by omega
    rw [this]
def ivEnum (v : Val) (l : List D) : Iv := ⟨enumD 0 l, (ivSeq v l).chk⟩
theorem pair_new {mg : Mg} {ρ2 : Rho} {M2 : Mem} {H2 : Hp} {T : Addr} {x y : V} {d e : D} (g : Gs mg ρ2 M2 H2) (hT : H2 T = none) (rx : Rep mg (SM ρ2 M2) H2 x d) (ry : Rep mg (SM ρ2 M2) H2 y e) :
    Same H2 (upd H2 T (.tup [x, y])) ∧ Rep mg (SM ρ2 M2) (upd H2 T (.tup [x, y])) (.ref T) (.tup [d, e]) := by
  obtain ⟨s, g', n⟩ := g.alloc hT (.tup [x, y])
  exact ⟨same_upd hT, T, [x, y], rfl, .inl upd_same, n, x, [y], rfl, Rep.mono s.keep rx, y, [], rfl, Rep.mono s.keep ry, rfl⟩
theorem ItOk.enumL {mg : Mg} {ρ : Rho} {M : Mem} {H : Hp} {v : Val} {l : List D} {a : Addr} (hv : rdT v = none) (e : rdS M v = some l) (r : RepV mg ρ M H (.ref a) v) : ItOk mg ρ M H (Ite mg.K a) (ivEnum v l) := by
  have key : ∀ {ρ2 M2 H2}, Stw ρ M H ρ2 M2 H2 → Gs mg ρ2 M2 H2 → (ivSeq v l).chk M2 → ∃ us, SqL mg.K H2 a us ∧ RepL mg (SM ρ2 M2) H2 us l := fun {ρ2 M2 H2} s g c => by
    obtain ⟨a', us, ea, hq, rl⟩ := rdL_rep g (r.stw s) (rdT_none hv (ivSeq_rd e c))
    cases ea
    exact ⟨us, hq, rl⟩
  refine ⟨fun i ρ2 M2 H2 s g c hi => ?_, fun ρ2 M2 H2 s g c => ?_, fun i ρ2 M2 H2 x H3 s g c hi y => ?_⟩
  · have hi : i < (enumD 0 l).length := hi
    rw [enumD_length] at hi
    obtain ⟨us, hq, rl⟩ := key s g c
    obtain ⟨u, eu, _⟩ := rl.get (List.getElem?_eq_getElem hi)
    exact ⟨us, u, hq, eu⟩
  · obtain ⟨us, hq, rl⟩ := key s g c
    refine ⟨us, hq, ?_⟩
    show us.length ≤ (enumD 0 l).length
    rw [enumD_length]
    exact Nat.le_of_eq (RepL.length rl)
  · have hi : i < (enumD 0 l).length := hi
    rw [enumD_length] at hi
    obtain ⟨us, hq, rl⟩ := key s g c
    obtain ⟨u, eu, ru⟩ := rl.get (List.getElem?_eq_getElem hi)
    obtain ⟨T, x, rfl, hT, rfl, hx⟩ := y
    have := hx us hq
    rw [eu] at this
    cases this
    have := pair_new g hT (x := .int (i : Nat)) (d := .int (i : Nat)) rfl ru
    exact ⟨this.1, _, (enumD_get l 0 i _ (List.getElem?_eq_getElem hi)).trans (by rw [Nat.zero_add]), this.2⟩
theorem ItOk.enumT {mg : Mg} {ρ : Rho} {M : Mem} {H : Hp} {v : Val} {l : List D} {a : Addr} (hv : rdT v = some l) (r : RepV mg ρ M H (.ref a) v) : ItOk mg ρ M H (ItET mg.K a) (ivEnum v l) := by
  have key : ∀ {ρ2 M2 H2}, Stw ρ M H ρ2 M2 H2 → ∃ us, SqT mg.K H2 a us ∧ RepL mg (SM ρ2 M2) H2 us l := fun {ρ2 M2 H2} s => by
    obtain ⟨a', us, ea, hq, rl⟩ := rdT_rep (r.stw s) hv
    cases ea
    exact ⟨us, hq, rl⟩
  refine ⟨fun i ρ2 M2 H2 s g c hi => ?_, fun ρ2 M2 H2 s g c => ?_, fun i ρ2 M2 H2 x H3 s g c hi y => ?_⟩
  · have hi : i < (enumD 0 l).length := hi
    rw [enumD_length] at hi
    obtain ⟨us, hq, rl⟩ := key s
    obtain ⟨u, eu, _⟩ := rl.get (List.getElem?_eq_getElem hi)
    exact ⟨us, u, hq, eu⟩
  · obtain ⟨us, hq, rl⟩ := key s
    refine ⟨us, hq, ?_⟩
    show us.length = (enumD 0 l).length
    rw [enumD_length]
    exact RepL.length rl
  · have hi : i < (enumD 0 l).length := hi
    rw [enumD_length] at hi
    obtain ⟨us, hq, rl⟩ := key s
    obtain ⟨u, eu, ru⟩ := rl.get (List.getElem?_eq_getElem hi)
    obtain ⟨T, x, rfl, hT, rfl, hx⟩ := y
    have := hx us hq
    rw [eu] at this
    cases this
    have := pair_new g hT (x := .int (i : Nat)) (d := .int (i : Nat)) rfl ru
    exact ⟨this.1, _, (enumD_get l 0 i _ (List.getElem?_eq_getElem hi)).trans (by rw [Nat.zero_add]), this.2⟩
def iEnumF (fs : En → Mem → R (List Val)) : En → Mem → R Iv := fun e M => rbind (fs e M) fun vs M1 => match vs with
  | [v] => (match rdS M1 v with
    | some l => .ok (ivEnum v l) M1
    | none => .bad)
  | _ => .bad
theorem vi_enum {p pos tpos : Pos} {elts : List Expr} {kk : Nat} (hg : Gl X "enumerate") (hm : X.mg "enumerate" = none) (ha : VA X W [a] fs) (hs : starEach [a] X.env = [(false, eval a X.env)] := by rfl) : VI X W (.Tuple elts kk tpos) (.Call (.Name "enumerate" p) [a] [] pos) (iEnumF fs) :=
  pi_imp (PI.or (pi_enum hg hm ha hs) (pi_enumT hg hm ha hs)) fun σ H K ⟨ρ, env, M, es, q⟩ => by
  unfold iEnumF at q
  revert q
  cases hf : fs env M with
  | bad => exact fun q => q.elim
  | err x M1 => exact fun q => .inl ⟨ρ, env, M, es, by rw [hf]; exact q⟩
  | ok vs M1 =>
    simp only [rbind_ok]
    intro q
    split at q
    · rename_i v
      split at q
      · rename_i l hs
        cases ht : rdT v with
        | some l' =>
          have el : l' = l := by
            unfold rdS at hs
            rw [ht] at hs
            exact Option.some.inj hs
          subst el
          refine .inr ⟨ρ, env, M, es, ?_⟩
          rw [hf]
          intro ρ1 us0 H1 s1 g1 r1
          obtain ⟨u, r, rfl, hu, hr⟩ := r1
          cases hr
          obtain ⟨a, us, rfl, hq, rl⟩ := rdT_rep hu ht
          exact ⟨a, us, rfl, hq, q.2 ρ1 H1 _ s1 g1 (ItOk.enumT ht hu)⟩
        | none =>
          refine .inl ⟨ρ, env, M, es, ?_⟩
          rw [hf]
          intro ρ1 us0 H1 s1 g1 r1
          obtain ⟨u, r, rfl, hu, hr⟩ := r1
          cases hr
          obtain ⟨a, us, rfl, hq, rl⟩ := rdL_rep g1 hu (rdT_none ht hs)
          exact ⟨a, us, rfl, hq, q.2 ρ1 H1 _ s1 g1 (ItOk.enumL ht hs hu)⟩
      · exact q.elim
    · exact q.elim

/-! ### for -/
noncomputable def forF (chk : Mem → Prop) (tg : D → En → Option En) (body : SF) : List D → SF
  | [] => fun e M => open Classical in if chk M then .nx e M else .bad
  | x :: r => fun e M => open Classical in if chk M then (match tg x e with
    | none => .bad
    | some e1 => match body e1 M with
      | .nx e' M' => forF chk tg body r e' M'
      | .ct e' M' => forF chk tg body r e' M'
      | .bk e' M' => .nx e' M'
      | o => o) else .bad
theorem forF_chk {chk : Mem → Prop} {tg : D → En → Option En} {body : SF} {l : List D} {e : En} {M : Mem} {mg : Mg} {ρ : Rho} {H : Hp} {D : Ends} (h : KontS mg ρ M H (forF chk tg body l e M) D W) : chk M := by
  cases l with
  | nil =>
    unfold forF at h
    by_cases c : chk M
    · exact c
    · rw [if_neg c] at h; exact h.elim
  | cons x r =>
    unfold forF at h
    by_cases c : chk M
    · exact c
    · rw [if_neg c] at h; exact h.elim
noncomputable def sFor (fi : En → Mem → R Iv) (tg : D → En → Option En) (body : SF) : SF := fun e M => match fi e M with
  | .ok v M1 => forF v.chk tg body v.l e M1
  | .err x M1 => .er x e M1
  | .bad => .bad
theorem vs_for {ix : List Nat} {t : D → En → Option En} {fi : En → Mem → R Iv} (hp : PassesOwn (model X.prog X.w) X.A X.env X.xe) (hc : X.calm = true) (hi : VI X W tg iter fi) (hg : VG X ix tg t) (hb : VSs X W sts F)
    (hs : ∀ x, foldedSetIterable iter X.env x = pure x := by intro _; rfl) : VS X W (.For tg iter sts [] pos) (sFor fi t F) := ps_imp (ps_for hp hc hi hg hb hs) fun D σ H ⟨ρ, env, M, es, q⟩ => by
  refine ⟨ρ, env, M, es, ?_⟩
  unfold sFor at q
  revert q
  cases hf : fi env M with
  | bad => exact fun q => q.elim
  | err x M1 => exact fun q ρ1 c d H1 s1 g1 r1 => q ρ1 σ c d H1 s1 (es.step s1 g1) r1
  | ok v M1 =>
    intro q
    dsimp only at q
    have ck : v.chk M1 := by
      cases hl : v.l with
      | nil =>
        rw [hl] at q
        unfold forF at q
        by_cases c : v.chk M1
        · exact c
        · rw [if_neg c] at q; exact q.elim
      | cons x r =>
        rw [hl] at q
        unfold forF at q
        by_cases c : v.chk M1
        · exact c
        · rw [if_neg c] at q; exact q.elim
    refine ⟨ck, fun ρ1 H1 J s1 g1 io => ?_⟩
    have q1 := q.from s1
    have es1 := es.step s1 g1
    refine for_it (g := liftG (gm X) ix t) (tb := liftS (gm X) W F) (D := D) (n := v.l.length) (G := fun H2 => ∃ ρ2 M2, Stp ρ1 M1 H1 ρ2 M2 H2 ∧ Gs (gm X) ρ2 M2 H2 ∧ v.chk M2) (Y := fun i H2 x H3 => J.yld i H2 x H3) ⟨fun i H2 hi ⟨ρ2, M2, s2, g2, c2⟩ => io.go i ρ2 M2 H2 s2.toStw g2 c2 hi, fun H2 ⟨ρ2, M2, s2, g2, c2⟩ => io.stop ρ2 M2 H2 s2.toStw g2 c2, fun i H2 x H3 _ _ y => y⟩
      (fun i σ2 H2 => ∃ ρ2 env2 M2, Stp ρ1 M1 H1 ρ2 M2 H2 ∧ Es (gm X) ρ2 env2 M2 σ2 H2 ∧ KontS (gm X) ρ2 M2 H2 (forF v.chk t F (v.l.drop i) env2 M2) D W) ⟨ρ1, env, M1, .refl, es1, q1⟩
      (fun i σ2 H2 _ ⟨ρ2, env2, M2, s2, es2, q2⟩ => ⟨ρ2, M2, s2, es2.gs, forF_chk q2⟩)
      (fun i x σ2 H2 H3 hi ⟨ρ2, env2, M2, s2, es2, q2⟩ y => ?_) (fun σ2 H2 ⟨ρ2, env2, M2, s2, es2, q2⟩ => ?_)
    · have c2 := forF_chk q2
      obtain ⟨sm, d, ed, rd⟩ := io.yld i ρ2 M2 H2 x H3 s2.toStw es2.gs c2 hi y
      obtain ⟨g3, s3⟩ := es2.gs.same sm
      have es3 := es2.step s3 g3
      have ed' : v.l.drop i = d :: v.l.drop (i + 1) := by
        rw [List.drop_eq_getElem_cons hi]
        rw [List.getElem?_eq_getElem hi] at ed
        rw [Option.some.inj ed]
      rw [ed'] at q2
      unfold forF at q2
      rw [if_pos c2] at q2
      have q3 := q2.from s3
      revert q3
      cases et : t d env2 with
      | none => exact fun q3 => q3.elim
      | some e1 =>
        intro q3
        dsimp only at q3
        refine ⟨ρ2, env2, M2, d, e1, es3, rd, et, fun σ' _ es' => ⟨ρ2, e1, M2, es', ?_⟩⟩
        revert q3
        cases F e1 M2 with
        | nx e2 M3 => exact fun q3 ρ4 σ4 H4 s4 es4 => ⟨ρ4, e2, M3, (s2.trans s3).trans s4, es4, q3.from s4⟩
        | ct e2 M3 => exact fun q3 ρ4 σ4 H4 s4 es4 => ⟨ρ4, e2, M3, (s2.trans s3).trans s4, es4, q3.from s4⟩
        | bk e2 M3 => exact fun q3 => q3
        | rt w M3 => exact fun q3 => q3
        | er x2 e2 M3 => exact fun q3 => q3
        | bad => exact fun q3 => q3
    · rw [List.drop_length] at q2
      have c2 := forF_chk q2
      unfold forF at q2
      rw [if_pos c2] at q2
      exact q2 ρ2 σ2 H2 .refl es2
end
end Vl
set_option Elab.async false
set_option linter.all false
set_option maxRecDepth 100000
/-! Vl8: list comprehensions. -/
namespace Vl
open PySem PySem.Spec PyProof.Rows L2

def wipeE (e : En) : List Nat → En
  | [] => e
  | v :: vs => (wipeE e vs).set v none
theorem Es.wipe {mg : Mg} {ρ : Rho} {e : En} {M : Mem} {σ : L2.St} {H : Hp} (es : Es mg ρ e M σ H) : ∀ vs, Es mg ρ (wipeE e vs) M (wipe σ vs) H
  | [] => es
  | v :: vs => (Es.wipe es vs).unset
/-- nothing that is raised leaves -/
abbrev W0 : WX := fun _ _ _ _ => False
def lcPut (y : Val) (r : R (List D)) : R (List D) := match y with
  | .d y => (match r with
    | .ok ys M => .ok (y :: ys) M
    | .err _ _ => .bad
    | .bad => .bad)
  | .obj _ => .bad
  | .exc _ => .bad
noncomputable def lcF (chk : Mem → Prop) (t : D → En → Option En) (ts : BF) (el : EF) (e : En) : List D → Mem → R (List D)
  | [], M => open Classical in if chk M then .ok [] M else .bad
  | x :: r, M => open Classical in if chk M then (match t x e with
    | none => .bad
    | some e1 => match ts e1 M with
      | .ok b M1 => if b = true then (match el e1 M1 with
        | .ok y M2 => lcPut y (lcF chk t ts el e r M2)
        | .err _ _ => .bad
        | .bad => .bad) else lcF chk t ts el e r M1
      | .err _ _ => .bad
      | .bad => .bad) else .bad
def bYes : BF := fun _ M => .ok true M
noncomputable def fLc (fi : En → Mem → R Iv) (t : D → En → Option En) (ts : BF) (el : EF) (vs : List Nat) : EF := fun e M => match fi e M with
  | .ok v M1 => if v.l.length ≤ big then (match lcF v.chk t ts el (wipeE e vs) v.l M1 with
    | .ok ys M2 => .ok (.d (.lst ys)) M2
    | _ => .bad) else .bad
  | .err x M1 => .err x M1
  | .bad => .bad

section
variable {mg : Mg} {ρ : Rho} {M : Mem} {H : Hp} {C : Addr}
def hide (ρ : Rho) (C : Addr) : Rho := ⟨ρ.r, fun a => ρ.z a ∨ a = C⟩
theorem SM_hide {a : Addr} : SM (hide ρ C) M a ↔ SM ρ M a ∨ a = C := by
  unfold SM hide
  constructor
  · rintro ((h | h) | h)
    · exact .inl (.inl h)
    · exact .inr h
    · exact .inl (.inr h)
  · rintro ((h | h) | h)
    · exact .inl (.inl h)
    · exact .inr h
    · exact .inl (.inr h)
theorem RepW.same_r {ρ' : Rho} {H' : Hp} (er : ρ'.r = ρ.r) (k : ∀ a o, H a = some o → ¬ SM ρ M a → H' a = some o ∧ ¬ SM ρ' M a) {u : V} {v : Val} (h : RepW mg ρ M H u v) : RepW mg ρ' M H' u v := by
  cases v with
  | exc x => exact h
  | d x => exact Rep.mono k h
  | obj j => exact ⟨by rw [show (ρ' : Nat → Addr) = ρ from er]; exact h.1, h.2⟩
theorem RepFV.same_r {ρ' : Rho} {H' : Hp} (er : ρ'.r = ρ.r) (k : ∀ a o, H a = some o → ¬ SM ρ M a → H' a = some o ∧ ¬ SM ρ' M a) : ∀ {vs : List (Str × Val)} {us : List (Str × V)}, RepFV mg ρ M H us vs → RepFV mg ρ' M H' us vs
  | [], _, h => h
  | (_, v) :: vs, _, h => by
    obtain ⟨u, r, e, h1, h2⟩ := h
    exact ⟨u, r, e, h1.same_r er k, RepFV.same_r er k h2⟩
theorem RepO.same_r {ρ' : Rho} {H' : Hp} (er : ρ'.r = ρ.r) (k : ∀ a o, H a = some o → ¬ SM ρ M a → H' a = some o ∧ ¬ SM ρ' M a) {a : Addr} {o : MO} (he : ∀ x, H a = some x → H' a = some x) (q : RepO mg ρ M H a o) : RepO mg ρ' M H' a o := by
  cases o with
  | lst ds => obtain ⟨us, e, q⟩ := q; exact ⟨us, he _ e, RepL.mono k q⟩
  | dct ds => obtain ⟨us, e, q⟩ := q; exact ⟨us, he _ e, RepP.mono k q⟩
  | ins C gs => obtain ⟨Ca, dx, fs, e, m, q⟩ := q; exact ⟨Ca, dx, fs, he _ e, m, RepFV.same_r er k q⟩
  | dead => trivial
/-- a new list is hidden -/
theorem Gs.hide (g : Gs mg ρ M H) (hC : H C = none) (ob : HO) : Gs mg (hide ρ C) M (upd H C ob) := by
  have k : ∀ a o, H a = some o → ¬ SM ρ M a → upd H C ob a = some o ∧ ¬ SM (Vl.hide ρ C) M a := fun a o e n => ⟨same_upd hC a o e, fun z => by
    rcases SM_hide.mp z with z | z
    · exact n z
    · rw [z, hC] at e; cases e⟩
  refine ⟨fun j x e => RepO.same_r (ρ := ρ) (ρ' := Vl.hide ρ C) rfl k (fun y z => same_upd hC _ _ z) (g.at_ j x e), g.inj, fun a z => ?_, fun j l z => ?_⟩
  · rcases z with z | z
    · obtain ⟨x, e⟩ := g.zin a z
      exact ⟨x, same_upd hC a x e⟩
    · exact ⟨ob, by rw [z]; exact upd_same⟩
  · rcases z with z | z
    · exact g.zlv j l z
    · obtain ⟨y, e, _⟩ := g.some_of l
      have z : ρ j = C := z
      rw [z, hC] at e; cases e
/-- the hidden list is written -/
theorem Gs.hwrite {ρ : Rho} (hz : ρ.z C) (g : Gs mg ρ M H) (ob : HO) : Gs mg ρ M (upd H C ob) := by
  have k : ∀ a o, H a = some o → ¬ SM ρ M a → upd H C ob a = some o ∧ ¬ SM ρ M a := fun a o e n => by
    have : a ≠ C := fun z => n (.inl (by rw [z]; exact hz))
    exact ⟨by rw [upd_ne this]; exact e, n⟩
  refine ⟨fun j x e => ?_, g.inj, fun a z => ?_, g.zlv⟩
  · by_cases hx : x = .dead
    · subst hx; trivial
    · refine RepO.same_r (ρ := ρ) rfl k (fun y w => ?_) (g.at_ j x e)
      have : ρ j ≠ C := fun q => g.zlv j ⟨x, e, hx⟩ (by rw [q]; exact hz)
      rw [upd_ne this]; exact w
  · by_cases e : a = C
    · exact ⟨ob, by rw [e]; exact upd_same⟩
    · obtain ⟨x, q⟩ := g.zin a z
      exact ⟨x, by rw [upd_ne e]; exact q⟩
/-- no more hidden -/
theorem Gs.show {ρ0 ρ : Rho} (er : ρ0.r = ρ.r) (ez : ∀ a, ρ0.z a → ρ.z a) (g : Gs mg ρ M H) : Gs mg ρ0 M H := by
  have k : ∀ a o, H a = some o → ¬ SM ρ M a → H a = some o ∧ ¬ SM ρ0 M a := fun a o e n => ⟨e, fun z => by
    rcases z with z | ⟨j, l, q⟩
    · exact n (.inl (ez a z))
    · exact n (.inr ⟨j, l, by rw [← show (ρ0 : Nat → Addr) = ρ from er]; exact q⟩)⟩
  refine ⟨fun j x e => ?_, fun j i lj li q => g.inj j i lj li (by rw [← show (ρ0 : Nat → Addr) = ρ from er]; exact q), fun a z => g.zin a (ez a z), fun j l z => g.zlv j l (ez _ (by rw [← show (ρ0 : Nat → Addr) = ρ from er]; exact z))⟩
  rw [show (ρ0 : Nat → Addr) = ρ from er]
  exact RepO.same_r (ρ := ρ) er k (fun y w => w) (g.at_ j x e)
end
section
variable {X : Cx} {W : WX} {tg iter elt : Expr} {ifs : List Expr} {fi : En → Mem → R Iv} {t : D → En → Option En} {ts : BF} {el : EF} {vs ix : List Nat}
def VTs (X : Cx) (W : WX) (es : List Expr) (f : BF) : Prop := PTs X es (liftb (gm X) W f)
theorem vts_nil : VTs X W [] bYes := ⟨fun pins s σ H Q I ⟨ρ, env, M, es, h⟩ => pts_nil.run pins s σ H Q I (h ρ H .refl es.gs)⟩
theorem vts_one {c : Expr} {p : BF} (h : VT X W c p) : VTs X W [c] p := pts_one h
theorem lc_chk {chk : Mem → Prop} {e : En} {l : List D} {M M' : Mem} {ys : List D} (h : lcF chk t ts el e l M = .ok ys M') : chk M := by
  cases l with
  | nil =>
    unfold lcF at h
    by_cases c : chk M
    · exact c
    · rw [if_neg c] at h; cases h
  | cons x r =>
    unfold lcF at h
    by_cases c : chk M
    · exact c
    · rw [if_neg c] at h; cases h
theorem wipe_get (σ : L2.St) (i : Nat) : ∀ vs : List Nat, (wipe σ vs)[i]? = if i ∈ vs ∧ i < σ.length then some none else σ[i]?
  | [] => by simp [wipe]
  | v :: vs => by
    have ih := wipe_get σ i vs
    unfold wipe
    by_cases e : v = i
    · subst e
      by_cases h : v < σ.length
      · rw [List.getElem?_set_self (by rw [wipe_length]; exact h), if_pos ⟨List.mem_cons_self, h⟩]
      · rw [if_neg (fun q => h q.2), List.getElem?_eq_none (by rw [List.length_set, wipe_length]; omega), List.getElem?_eq_none (by omega)]
    · rw [List.getElem?_set_ne e, ih]
      have : (i ∈ v :: vs) ↔ i ∈ vs := by
        rw [List.mem_cons]
        exact ⟨fun h => h.elim (fun q => absurd q.symm e) id, .inr⟩
      simp only [this]
theorem wipe_apart {ix vs : List Nat} (hix : ∀ i ∈ ix, i ∈ vs) {σ σ' : L2.St} (ap : Apart ix (wipe σ vs) σ') : wipe σ' vs = wipe σ vs := by
  have hl : σ'.length = σ.length := ap.1.trans (wipe_length σ vs)
  apply List.ext_getElem?
  intro i
  rw [wipe_get, wipe_get, hl]
  by_cases h : i ∈ vs ∧ i < σ.length
  · rw [if_pos h, if_pos h]
  · rw [if_neg h, if_neg h]
    by_cases hi : i ∈ vs
    · have h2 : ¬ i < σ.length := fun q => h ⟨hi, q⟩
      rw [List.getElem?_eq_none (by omega), List.getElem?_eq_none (by omega)]
    · rw [ap.2 i (fun z => hi (hix i z)), wipe_get, if_neg (fun q => hi q.1)]
/-- the comprehension's reading -/
theorem lc_lift (hix : ∀ i ∈ ix, i ∈ vs) (σ : L2.St) (H : Hp) (Q : VK) (h : lift (gm X) W (fLc fi t ts el vs) σ H Q) : tLc (liftI (gm X) W fi) (liftG (gm X) ix t) (liftb (gm X) W0 ts) (lift (gm X) W0 el) vs σ H Q := by
  obtain ⟨ρ, env, M, es, q⟩ := h
  refine ⟨ρ, env, M, es, ?_⟩
  unfold fLc at q
  revert q
  cases hf : fi env M with
  | bad => exact fun q => q.elim
  | err x M1 => exact fun q => q
  | ok v M1 =>
    intro q
    dsimp only at q
    by_cases hbig : v.l.length ≤ big
    case neg => rw [if_neg hbig] at q; exact q.elim
    rw [if_pos hbig] at q
    revert q
    cases hl : lcF v.chk t ts el (wipeE env vs) v.l M1 with
    | bad => exact fun q => q.elim
    | err x M2 => exact fun q => q.elim
    | ok ys Mf =>
      intro q
      dsimp only at q
      refine ⟨lc_chk hl, fun ρ1 H1 J s1 g1 io C hC => ?_⟩
      have es1 := es.step s1 g1
      have nz1 : ¬ ρ1.z C := fun z => by
        obtain ⟨o, e⟩ := g1.zin _ z
        rw [hC] at e; cases e
      refine lc_it (g := liftG (gm X) ix t) (tt := liftb (gm X) W0 ts) (te := lift (gm X) W0 el) (n := v.l.length) (G := fun H2 => ∃ ρ2 M2, Stw ρ1 M1 H1 ρ2 M2 H2 ∧ Gs (gm X) ρ2 M2 H2 ∧ v.chk M2) (Y := fun i H2 x H3 => J.yld i H2 x H3)
        ⟨fun i H2 hi ⟨ρ2, M2, s2, g2, c2⟩ => io.go i ρ2 M2 H2 s2 g2 c2 hi, fun H2 ⟨ρ2, M2, s2, g2, c2⟩ => io.stop ρ2 M2 H2 s2 g2 c2, fun i H2 x H3 _ _ y => y⟩
        (fun i H2 => ∃ (ρ2 : Rho) (M2 : Mem) (us : List V) (acc : List D) (zs : List D), Stw ρ1 M1 H1 ρ2 M2 H2 ∧ Gs (gm X) ρ2 M2 H2 ∧ ρ2.z = (hide ρ1 C).z ∧ (∀ a o, ρ1.z a → H1 a = some o → H2 a = some o) ∧ H2 C = some (.lst us) ∧ RepL (gm X) (SM ρ2 M2) H2 us acc ∧ acc.length ≤ i ∧
          lcF v.chk t ts el (wipeE env vs) (v.l.drop i) M2 = .ok zs Mf ∧ acc ++ zs = ys) ?start ?hG ?turn ?done
      case start =>
        refine ⟨hide ρ1 C, M1, [], [], ys, ⟨Nat.le_refl _, fun _ _ => rfl, fun a o e n => ⟨same_upd hC a o e, fun z => ?_⟩⟩, g1.hide hC _, rfl, fun a o _ e => same_upd hC a o e, upd_same, rfl, Nat.le_refl _, hl, rfl⟩
        rcases SM_hide.mp z with z | z
        · exact n z
        · rw [z, hC] at e; cases e
      case hG =>
        intro i H2 hi ⟨ρ2, M2, us, acc, zs, s2, g2, ez, zk, eC, rl, ha, hz, he⟩
        exact ⟨ρ2, M2, s2, g2, lc_chk hz⟩
      case done =>
        intro H2 ⟨ρ2, M2, us, acc, zs, s2, g2, ez, zk, eC, rl, ha, hz, he⟩
        rw [List.drop_length] at hz
        have c2 := lc_chk hz
        unfold lcF at hz
        rw [if_pos c2] at hz
        cases hz
        rw [List.append_nil] at he
        subst he
        have gs := g2.show (ρ := ρ2) (ρ0 := ⟨ρ2.r, ρ1.z⟩) rfl fun a z => by rw [ez]; exact .inl z
        have nC : ¬ SM (⟨ρ2.r, ρ1.z⟩ : Rho) Mf C := fun z => by
          rcases z with z | ⟨j, l, e⟩
          · exact nz1 z
          · exact g2.zlv j l (by rw [ez]; exact .inr e)
        have sub : ∀ a, SM (⟨ρ2.r, ρ1.z⟩ : Rho) Mf a → SM ρ2 Mf a := fun a z => by
          rcases z with z | ⟨j, l, e⟩
          · exact .inl (by rw [ez]; exact .inl z)
          · exact .inr ⟨j, l, e⟩
        have st : Stp ρ1 M1 H1 ⟨ρ2.r, ρ1.z⟩ Mf H2 := ⟨⟨s2.len, s2.rho, fun a o e n => ⟨(s2.keep a o e n).1, fun z => (s2.keep a o e n).2 (sub a z)⟩⟩, rfl, zk⟩
        exact q _ _ _ (s1.trans st) gs ⟨C, us, rfl, eC, nC, RepL.mono (fun a o e n => ⟨e, fun z => n (sub a z)⟩) rl⟩
      case turn =>
        intro i x H2 H3 hi ⟨ρ2, M2, us, acc, zs, s2, g2, ez, zk, eC, rl, ha, hz, he⟩ y
        have c2 := lc_chk hz
        obtain ⟨sm, d, ed, rd⟩ := io.yld i ρ2 M2 H2 x H3 s2 g2 c2 hi y
        obtain ⟨g3, s3⟩ := g2.same sm
        have ed' : v.l.drop i = d :: v.l.drop (i + 1) := by
          rw [List.drop_eq_getElem_cons hi]
          rw [List.getElem?_eq_getElem hi] at ed
          rw [Option.some.inj ed]
        rw [ed'] at hz
        unfold lcF at hz
        rw [if_pos c2] at hz
        have s13 := s2.trans s3.toStw
        -- the slots at the hidden state
        have es2 : Es (gm X) ρ2 env M2 σ H3 := ⟨g3, fun j w h => let ⟨u, a, b⟩ := es1.sl j w h; ⟨u, a, b.stw s13⟩, es1.len⟩
        have rl3 : RepL (gm X) (SM ρ2 M2) H3 us acc := RepL.mono s3.keep rl
        have eC3 : H3 C = some (.lst us) := sm _ _ eC
        have zk3 : ∀ a o, ρ1.z a → H1 a = some o → H3 a = some o := fun a o z e => sm _ _ (zk a o z e)
        revert hz
        cases et : t d (wipeE env vs) with
        | none => exact fun hz => nomatch hz
        | some e1 =>
          intro hz
          dsimp only at hz
          refine ⟨ρ2, wipeE env vs, M2, d, e1, es2.wipe vs, rd, et, fun σ' ap es' => ?_⟩
          refine ⟨wipe_apart hix ap, ρ2, e1, M2, es', ?_⟩
          revert hz
          cases hts : ts e1 M2 with
          | bad => exact fun hz => nomatch hz
          | err x2 M3 => exact fun hz => nomatch hz
          | ok b M3 =>
            intro hz ρ4 H4 s4 g4
            dsimp only at hz
            have zC : ρ4.z C := by rw [s4.zeq, ez]; exact .inr rfl
            have eC4 : H4 C = some (.lst us) := s4.zk _ _ (by rw [ez]; exact .inr rfl) eC3
            have zk4 : ∀ a o, ρ1.z a → H1 a = some o → H4 a = some o := fun a o z e => s4.zk a o (by rw [ez]; exact .inl z) (zk3 a o z e)
            have rl4 := RepL.mono s4.keep rl3
            cases b with
            | false =>
              rw [if_neg Bool.false_ne_true]
              exact ⟨ρ4, M3, us, acc, zs, s13.trans s4.toStw, g4, s4.zeq.trans ez, zk4, eC4, rl4, Nat.le_succ_of_le ha, by rw [if_neg Bool.false_ne_true] at hz; exact hz, he⟩
            | true =>
              rw [if_pos rfl]
              refine ⟨ρ4, e1, M3, es'.step s4 g4, ?_⟩
              rw [if_pos rfl] at hz
              revert hz
              cases hel : el e1 M3 with
              | bad => exact fun hz => nomatch hz
              | err x2 M4 => exact fun hz => nomatch hz
              | ok w M4 =>
                cases w with
                | obj k => exact fun hz => nomatch hz
                | exc x => exact fun hz => nomatch hz
                | d yy =>
                  intro hz ρ5 u H5 s5 g5 r5
                  dsimp only [lcPut] at hz
                  revert hz
                  cases hrec : lcF v.chk t ts el (wipeE env vs) (v.l.drop (i + 1)) M4 with
                  | bad => exact fun hz => nomatch hz
                  | err x2 M5 => exact fun hz => nomatch hz
                  | ok ys2 M5 =>
                    intro hz
                    cases hz
                    have zC5 : ρ5.z C := by rw [s5.zeq]; exact zC
                    have eC5 : H5 C = some (.lst us) := s5.zk _ _ zC eC4
                    have zk5 : ∀ a o, ρ1.z a → H1 a = some o → H5 a = some o := fun a o z e => s5.zk a o (by rw [s4.zeq, ez]; exact .inl z) (zk4 a o z e)
                    have rl5 := RepL.mono s5.keep rl4
                    have e0 := RepL.length rl5
                    have kp : ∀ a o, H5 a = some o → ¬ SM ρ5 M4 a → upd H5 C (.lst (us ++ [u])) a = some o ∧ ¬ SM ρ5 M4 a := fun a o e n => by
                      have : a ≠ C := fun z => n (.inl (by rw [z]; exact zC5))
                      exact ⟨by rw [upd_ne this]; exact e, n⟩
                    refine ⟨us, eC5, by rw [e0]; exact big_lt (by omega), ρ5, M4, us ++ [u], acc ++ [yy], ys2, ?_, g5.hwrite zC5 _, s5.zeq.trans (s4.zeq.trans ez), fun a o z e => ?_, upd_same, ?_, by simp; exact ha, hrec, by rw [List.append_assoc]; exact he⟩
                    · refine (s13.trans (s4.toStw.trans s5.toStw)).trans ⟨Nat.le_refl _, fun _ _ => rfl, kp⟩
                    · have : a ≠ C := fun q => nz1 (by rw [← q]; exact z)
                      rw [upd_ne this]; exact zk5 a o z e
                    · exact RepL.mono kp (RepL.append rl5 ⟨u, [], rfl, r5, rfl⟩)
theorem gm_blk (hh : X.A.handled = none) (s : Shared) (H : Hp) (scope : Scope) (cenv : Env) (fp : List Addr) : gm (X.blk s H scope cenv fp) = gm X := by
  show (⟨X.mg, X.K, hdOf (X.blk s H scope cenv fp)⟩ : Mg) = ⟨X.mg, X.K, hdOf X⟩
  rw [hdOf_none hh, hdOf_none (X := X.blk s H scope cenv fp) hh]
theorem ve_lc {own : List (Str × Nat)} {ix : List Nat} {scope : Scope} {pos : Pos} (hi : VI X W tg iter fi) (hh : X.A.handled = none) (hc : X.calm = true) (hN : X.N.Nodup) (ok : BlkOk X.N X.env.scope scope own) (hix : ∀ i ∈ ix, i ∈ own.map (·.2))
    (hg : ∀ (s : Shared) (H : Hp) (C : Addr) (cl : List (Str × Addr)) (fp : List Addr), VG (X.blk s H scope (compEnvC scope cl C X.env) fp) ix tg t) (ht : ∀ (s : Shared) (H : Hp) (C : Addr) (cl : List (Str × Addr)) (fp : List Addr), VTs (X.blk s H scope (compEnvC scope cl C X.env) fp) W0 ifs ts)
    (he : ∀ (s : Shared) (H : Hp) (C : Addr) (cl : List (Str × Addr)) (fp : List Addr), VE (X.blk s H scope (compEnvC scope cl C X.env) fp) W0 elt el) (hs : ∀ x, foldedSetIterable iter X.env x = pure x := by intro _; rfl) :
    VE X W (.ListComp elt [⟨tg, iter, ifs, 0⟩] scope pos) (fLc fi t ts el (own.map (·.2))) := pe_imp (pe_lc (g := liftG (gm X) ix t) (tt := liftb (gm X) W0 ts) (te := lift (gm X) W0 el) hc hN hi ok (fun s H C cl fp => by have z := hg s H C cl fp; unfold VG at z; rw [gm_blk hh] at z; exact z) (fun s H C cl fp => by have z := ht s H C cl fp; unfold VTs at z; rw [gm_blk hh] at z; exact z) (fun s H C cl fp => by have z := he s H C cl fp; unfold VE at z; rw [gm_blk hh] at z; exact z) hs) fun σ H Q h => lc_lift hix σ H Q h
/-- a name = a comprehension, on one line -/
theorem vs_setLc {i : Nat} {y : Str} {py : Pos} {own : List (Str × Nat)} {ix : List Nat} {scope : Scope} {pos spos : Pos} (hi : VI X W tg iter fi) (hh : X.A.handled = none) (hc : X.calm = true) (hN : X.N.Nodup) (ok : BlkOk X.N X.env.scope scope own) (hix : ∀ i ∈ ix, i ∈ own.map (·.2))
    (hg : ∀ (s : Shared) (H : Hp) (C : Addr) (cl : List (Str × Addr)) (fp : List Addr), VG (X.blk s H scope (compEnvC scope cl C X.env) fp) ix tg t) (ht : ∀ (s : Shared) (H : Hp) (C : Addr) (cl : List (Str × Addr)) (fp : List Addr), VTs (X.blk s H scope (compEnvC scope cl C X.env) fp) W0 ifs ts)
    (he : ∀ (s : Shared) (H : Hp) (C : Addr) (cl : List (Str × Addr)) (fp : List Addr), VE (X.blk s H scope (compEnvC scope cl C X.env) fp) W0 elt el)
    (hy : X.N[i]? = some y := by rfl) (hyl : X.env.scope.names.lookup y = some .local := by rfl) (hsw : swapsWith (.ListComp elt [⟨tg, iter, ifs, 0⟩] scope pos) (some (.Name y py)) spos.line X.env = pure true := by exact sw_true rfl rfl rfl (by decide +kernel)) (hs : ∀ x, foldedSetIterable iter X.env x = pure x := by intro _; rfl) :
    VS X W (.Assign [.Name y py] (.ListComp elt [⟨tg, iter, ifs, 0⟩] scope pos) spos) (sSet i (fLc fi t ts el (own.map (·.2)))) := ps_imp (ps_setLc (g := liftG (gm X) ix t) (tt := liftb (gm X) W0 ts) (te := lift (gm X) W0 el) hc hN hy hyl hsw hi ok (fun s H C cl fp => by have z := hg s H C cl fp; unfold VG at z; rw [gm_blk hh] at z; exact z) (fun s H C cl fp => by have z := ht s H C cl fp; unfold VTs at z; rw [gm_blk hh] at z; exact z) (fun s H C cl fp => by have z := he s H C cl fp; unfold VE at z; rw [gm_blk hh] at z; exact z) hs) fun D σ H h => by
  refine lc_lift hix σ H _ (liftS_bind h fun ρ env M H1 u v es rv q => ?_)
  exact q ρ _ H1 .refl (es.set rv)
end
end Vl
set_option Elab.async false
set_option linter.all false
set_option maxRecDepth 100000
/-! Vl9: defs: what they keep, calls; leaving a def drops what it made. -/
namespace Vl
open PySem PySem.Spec PyProof.Rows L2

def spF (mg : Mg) (φ : List Val → Mem → R Val) : Sp := fun vs H Q E => ∃ ρ M ws, Gs mg ρ M H ∧ RepVs mg ρ M H vs ws ∧ Kont mg ρ M H (φ ws M) Q E

/-! ### leaving a def -/
def okRef (n : Nat) : Val → Bool
  | .d _ => true
  | .obj k => decide (k < n)
  | .exc _ => false
def okO (n : Nat) : MO → Bool
  | .ins _ fs => fs.all fun p => okRef n p.2
  | _ => true
/-- what the def made is dropped, the answer stays -/
def cutV' (n : Nat) (v : Val) (M : Mem) : R Val := match v with
  | .d x => .ok (.d x) (M.take n)
  | .obj k => if k < n then .ok (.obj k) (M.take n) else (match M[k]? with
    | some (.lst l) => .ok (.d (.lst l)) (M.take n)
    | some (.dct l) => .ok (.d (.dct l)) (M.take n)
    | _ => .ok (.obj k) M)
  | .exc _ => .bad
def OkCut (M0 M : Mem) : Prop := ∀ k o, k < M0.length → M[k]? = some o → M0[k]? = some o ∨ okO M0.length o = true
noncomputable def finish (M0 : Mem) (v : Val) (M : Mem) : R Val := open Classical in
  if M.length = M0.length then .ok v M else if OkCut M0 M then cutV' M0.length v M else .bad
noncomputable def finishX (M0 : Mem) (x : Exn) (M : Mem) : R Val := open Classical in
  if M.length = M0.length then .err x M else if OkCut M0 M then .err x (M.take M0.length) else .bad
section
variable {mg : Mg} {ρ ρ' : Rho} {M M' : Mem} {H H' : Hp} {u : V} {v v' : Val} {n : Nat}
theorem okF_of : ∀ {gs : List (Str × Val)} {fs : List (Str × V)}, RepFV mg ρ M H fs gs → (gs.all fun p => okRef M.length p.2) = true
  | [], _, _ => rfl
  | (f, w) :: gs, _, h => by
    obtain ⟨u, r, rfl, h1, h2⟩ := h
    rw [List.all_cons, okF_of h2, Bool.and_true]
    cases w with
    | d x => rfl
    | obj k => exact decide_eq_true h1.2
    | exc x => exact h1.elim
theorem okO_of {a : Addr} {o : MO} (h : RepO mg ρ M H a o) : okO M.length o = true := by
  cases o with
  | lst l => rfl
  | dct l => rfl
  | dead => rfl
  | ins C gs =>
    obtain ⟨Ca, dx, fs, e, m, q⟩ := h
    exact okF_of q
theorem live_take {k : Nat} (h : Live (M.take n) k) : k < n ∧ Live M k := by
  obtain ⟨o, e, ne⟩ := h
  have hk : k < (M.take n).length := (List.getElem?_eq_some_iff.mp e).1
  have hn : k < n := by rw [List.length_take] at hk; omega
  rw [List.getElem?_take_of_lt hn] at e
  exact ⟨hn, o, e, ne⟩
theorem SM_take {a : Addr} (h : SM ρ (M.take n) a) : SM ρ M a := h.imp id fun ⟨k, l, e⟩ => ⟨k, (live_take l).2, e⟩
theorem RepFV.take : ∀ {gs : List (Str × Val)} {fs : List (Str × V)}, (n ≤ M.length) → RepFV mg ρ M H fs gs → (gs.all fun p => okRef n p.2) = true → RepFV mg ρ (M.take n) H fs gs
  | [], _, _, h, _ => h
  | (f, w) :: gs, _, hn, h, hk => by
    obtain ⟨u, r, rfl, h1, h2⟩ := h
    rw [List.all_cons, Bool.and_eq_true] at hk
    refine ⟨u, r, rfl, ?_, RepFV.take hn h2 hk.2⟩
    cases w with
    | d x => exact Rep.mono (fun a o e m => ⟨e, fun z => m (SM_take z)⟩) h1
    | obj k => exact ⟨h1.1, by rw [List.length_take]; have := of_decide_eq_true hk.1; omega⟩
    | exc x => exact h1.elim
theorem RepO.take {a : Addr} {o : MO} (hn : n ≤ M.length) (h : RepO mg ρ M H a o) (hk : okO n o = true) : RepO mg ρ (M.take n) H a o := by
  have k : ∀ a o, H a = some o → ¬ SM ρ M a → H a = some o ∧ ¬ SM ρ (M.take n) a := fun a o e m => ⟨e, fun z => m (SM_take z)⟩
  cases o with
  | lst ds => obtain ⟨us, e, q⟩ := h; exact ⟨us, e, RepL.mono k q⟩
  | dct ds => obtain ⟨us, e, q⟩ := h; exact ⟨us, e, RepP.mono k q⟩
  | ins C gs => obtain ⟨Ca, dx, fs, e, m, q⟩ := h; exact ⟨Ca, dx, fs, e, m, RepFV.take hn q hk⟩
  | dead => trivial
theorem cut_gs (g0 : Gs mg ρ M H) (s : Stp ρ M H ρ' M' H') (g : Gs mg ρ' M' H') (hk : OkCut M M') : Stp ρ M H ρ' (M'.take M.length) H' ∧ Gs mg ρ' (M'.take M.length) H' := by
  have hn := s.len
  refine ⟨⟨⟨by rw [List.length_take]; omega, s.rho, fun a o e m => ⟨(s.keep a o e m).1, fun z => (s.keep a o e m).2 (SM_take z)⟩⟩, s.zeq, s.zk⟩, ⟨fun k o e => ?_, fun j k lj lk q => g.inj j k (live_take lj).2 (live_take lk).2 q, g.zin, fun k l z => g.zlv k (live_take l).2 z⟩⟩
  have hl : k < (M'.take M.length).length := (List.getElem?_eq_some_iff.mp e).1
  have hk' : k < M.length := by rw [List.length_take] at hl; omega
  rw [List.getElem?_take_of_lt hk'] at e
  refine (g.at_ k o e).take hn ?_
  rcases hk k o hk' e with h | h
  · exact okO_of (g0.at_ k o h)
  · exact h
theorem finish_ok {Q : VK} {E : XK} (g0 : Gs mg ρ M H) (s : Stp ρ M H ρ' M' H') (g : Gs mg ρ' M' H') (r : RepV mg ρ' M' H' u v) (q : Kont mg ρ M H (finish M v M') Q E) : Q u H' := by
  unfold finish at q
  split at q
  · exact q ρ' u H' s g r
  · split at q
    · rename_i hk
      obtain ⟨s1, g1⟩ := cut_gs g0 s g hk
      have hn := s.len
      have k : ∀ a o, H' a = some o → ¬ SM ρ' M' a → H' a = some o ∧ ¬ SM ρ' (M'.take M.length) a := fun a o e m => ⟨e, fun z => m (SM_take z)⟩
      unfold cutV' at q
      split at q
      · exact q ρ' u H' s1 g1 (Rep.mono k r)
      · rename_i j
        split at q
        · rename_i hj
          exact q ρ' u H' s1 g1 ⟨r.1, by rw [List.length_take]; omega⟩
        · rename_i hj
          have off : ∀ {o}, M'[j]? = some o → o ≠ .dead → ¬ SM ρ' (M'.take M.length) (ρ' j) := fun {o} e ne z => by
            rcases z with z | ⟨i, l, ei⟩
            · exact g.zlv j ⟨o, e, ne⟩ z
            · have := g.inj i j (live_take l).2 ⟨o, e, ne⟩ ei
              have := (live_take l).1
              omega
          split at q
          · rename_i l e
            obtain ⟨us, eu, rl⟩ := g.at_ j _ e
            exact q ρ' u H' s1 g1 ⟨_, us, r.1, eu, off e (by intro z; cases z), RepL.mono k rl⟩
          · rename_i l e
            obtain ⟨us, eu, rl⟩ := g.at_ j _ e
            exact q ρ' u H' s1 g1 ⟨_, us, r.1, .inl eu, off e (by intro z; cases z), RepP.mono k rl⟩
          · exact q ρ' u H' s g r
      · exact q.elim
    · exact q.elim
theorem finishX_ok {Q : VK} {E : XK} {x : Exn} {cls : Value} {d : Option Addr} (g0 : Gs mg ρ M H) (s : Stp ρ M H ρ' M' H') (g : Gs mg ρ' M' H') (r : RepX mg ρ' M' H' cls d x) (q : Kont mg ρ M H (finishX M x M') Q E) : E cls d H' := by
  unfold finishX at q
  split at q
  · exact q ρ' cls d H' s g r
  · split at q
    · rename_i hk
      obtain ⟨s1, g1⟩ := cut_gs g0 s g hk
      have k : ∀ a o, H' a = some o → ¬ SM ρ' M' a → H' a = some o ∧ ¬ SM ρ' (M'.take M.length) a := fun a o e m => ⟨e, fun z => m (SM_take z)⟩
      refine q ρ' cls d H' s1 g1 ?_
      obtain ⟨C, e1, e2, h⟩ := r
      refine ⟨C, e1, e2, h.imp id fun ⟨dd, fs, a, b, c, e⟩ => ⟨dd, fs, a, b, fun z => c (SM_take z), RepF.mono k e⟩⟩
    · exact q.elim
end
/-- the slots at a def's entry -/
def env0 (n : Nat) (ws : List Val) : En := ws.map some ++ List.replicate (n - ws.length) none
/-- a def as a function: its body from its arguments -/
noncomputable def callF (n : Nat) (F : SF) (ws : List Val) (M : Mem) : R Val := match F (env0 n ws) M with
  | .rt v M' => finish M v M'
  | .nx _ M' => finish M (.d .non) M'
  | .er x _ M' => finishX M x M'
  | _ => .bad
theorem repVs_get {mg : Mg} {ρ : Rho} {M : Mem} {H : Hp} : ∀ {ws : List Val} {vs : List V} {i : Nat} {w : Val}, RepVs mg ρ M H vs ws → ws[i]? = some w → ∃ v, vs[i]? = some v ∧ RepV mg ρ M H v w
  | [], _, _, _, _, e => by simp at e
  | x :: r, _, 0, _, h, e => by
    obtain ⟨u, us, rfl, h1, h2⟩ := h
    simp at e; subst e
    exact ⟨u, rfl, h1⟩
  | x :: r, _, i + 1, _, h, e => by
    obtain ⟨u, us, rfl, h1, h2⟩ := h
    obtain ⟨v, a, b⟩ := repVs_get (i := i) h2 (by simpa using e)
    exact ⟨v, by simpa using a, b⟩
theorem es_start {mg : Mg} {ρ : Rho} {M : Mem} {H : Hp} {ws : List Val} {vs : List V} {N : List Str} (g : Gs mg ρ M H) (r : RepVs mg ρ M H vs ws) : Es mg ρ (env0 N.length ws) M (L2.start N vs) H := by
  have hl := RepVs.length r
  refine ⟨g, fun i w h => ?_, by unfold env0 L2.start; simp [hl]⟩
  unfold env0 at h
  by_cases hi : i < ws.length
  · rw [List.getElem?_append_left (by simpa using hi), List.getElem?_map] at h
    cases e : ws[i]? with
    | none => rw [e] at h; cases h
    | some x =>
      rw [e] at h
      cases h
      obtain ⟨v, a, b⟩ := repVs_get r e
      refine ⟨v, ?_, b⟩
      unfold L2.start
      rw [List.getElem?_append_left (by rw [List.length_map, hl]; exact hi), List.getElem?_map, a]
      rfl
  · rw [List.getElem?_append_right (by simpa using hi), List.getElem?_replicate] at h
    split at h <;> cases h

/-! ### a def keeps its function -/
section
variable {P : Program} {w : World} {K : PySem.W.Frag} {mg : Str → Option Value} {base : Heap}
theorem gm_calm {X : Cx} (h : X.A.handled = none) : gm X = ⟨X.mg, X.K, none⟩ := by
  show (⟨X.mg, X.K, hdOf X⟩ : Mg) = _
  rw [hdOf_none h]
abbrev FnV (P : Program) (w : World) (K : PySem.W.Frag) (mg : Str → Option Value) (base : Heap) (k : Nat) (f : Addr) (fd : FuncData) (ps : List Str) (φ : List Val → Mem → R Val) : Prop := FnOk P w K mg base (L2N.CX P w) k f fd ps (spF ⟨mg, K, none⟩ φ)
theorem fnV_of {name qual : Str} {params : Arguments} {body : List Stmt} {scope : Scope} {dV kV doc pm cdv ct oc : Value} {an od : Option Addr} {osl : Array (Option Value)} {N ps : List Str} {k : Nat} {f : Addr} {φ : List Val → Mem → R Val} {F : SF}
    (lk : K.lookup f = some ⟨oc, od, .func (PySem.W.fnOf name qual params body scope dV kV doc pm an cdv ct), osl⟩) (hcd : PySem.W.codeIn K cdv qual = true) (S : FnScope N ps scope)
    (hb : ∀ (A : Around) (outer : List Env) (s : Shared) (H : Hp) (E : XK), Room k (A.deeper (envOfC qual scope s.heap.objs.size f cdv)) →
      L2N.Takes (cxOf (L2N.CX P w) P w K mg base N qual scope f cdv A outer s H E) (fun c d _ H' => E c d H') → PassesOwn (model P w) (cxOf (L2N.CX P w) P w K mg base N qual scope f cdv A outer s H E).A (cxOf (L2N.CX P w) P w K mg base N qual scope f cdv A outer s H E).env (cxOf (L2N.CX P w) P w K mg base N qual scope f cdv A outer s H E).xe →
      VSs (cxOf (L2N.CX P w) P w K mg base N qual scope f cdv A outer s H E) (fun c d _ H' => E c d H') body F)
    (hφ : ∀ ws M, φ ws M ≠ .bad → ws.length = ps.length ∧ callF N.length F ws M = φ ws M) :
    FnV P w K mg base (k + 1) f (PySem.W.fnOf name qual params body scope dV kV doc pm an cdv ct) ps φ := by
  refine fn_of lk hcd S (fun vs H Q E ⟨ρ, M, ws, g, r, q⟩ => (RepVs.length r).trans (hφ ws M (fun z => by rw [z] at q; exact q)).1) fun A outer s H vs Q E hr ⟨ρ, M, ws, g, r, q⟩ => ?_
  have eg : gm (cxOf (L2N.CX P w) P w K mg base N qual scope f cdv A outer s H E) = ⟨mg, K, none⟩ := gm_calm hr.hd
  refine ⟨liftS ⟨mg, K, none⟩ (fun c d _ H' => E c d H') F, by
    have z := hb A outer s H E hr (L2N.takes_of rfl rfl rfl rfl) PassesOwn.leaving
    unfold VSs at z
    rw [eg] at z
    exact z, ρ, env0 N.length ws, M, es_start g r, ?_⟩
  have e := (hφ ws M (fun z => by rw [z] at q; exact q)).2
  rw [← e] at q
  unfold callF at q
  revert q
  cases F (env0 N.length ws) M with
  | nx e1 M1 => exact fun q ρ1 σ1 H1 s1 es1 => finish_ok (u := .non) (v := .d .non) g s1 es1.gs (show V.non = V.non from rfl) q
  | rt v M1 => exact fun q ρ1 u H1 s1 g1 r1 => finish_ok g s1 g1 r1 q
  | bk e1 M1 => exact fun q => q.elim
  | ct e1 M1 => exact fun q => q.elim
  | er x e1 M1 => exact fun q ρ1 σ1 c d H1 s1 es1 rx => finishX_ok g s1 es1.gs rx q
  | bad => exact fun q => q.elim
/-- a def of the module that keeps φ, at level k -/
structure FCal (P : Program) (w : World) (K : PySem.W.Frag) (mg : Str → Option Value) (base : Heap) (k : Nat) (x : Str) (φ : List Val → Mem → R Val) : Prop where
  ex : ∃ f fd ps, FnV P w K mg base k f fd ps φ ∧ mg x = some (.ref f) ∧ PySem.W.keepIn K (.ref f) = true ∧ Binds K fd ps []
/-- a method of the class cn -/
structure MCal (P : Program) (w : World) (K : PySem.W.Frag) (mg : Str → Option Value) (base : Heap) (k : Nat) (cn m : Str) (φ : List Val → Mem → R Val) : Prop where
  ex : ∃ C f fd ps, FnV P w K mg base k f fd ps φ ∧ mg cn = some (.ref C) ∧ Cls K C ∧ Meth K C m f ∧ Binds K fd ps []
/-- the class cn with its __init__ -/
structure NCal (P : Program) (w : World) (K : PySem.W.Frag) (mg : Str → Option Value) (base : Heap) (k : Nat) (cn : Str) (φ : List Val → Mem → R Val) : Prop where
  ex : ∃ C f fd ps, FnV P w K mg base k f fd ps φ ∧ mg cn = some (.ref C) ∧ Mk K C f ∧ Binds K fd ps []
theorem takes_W0 {X : Cx} : L2N.Takes X W0 := fun u s' ⟨_, _, _, _, _, _, _, _, _, _, _, _, _, _, _, _, w⟩ => w.elim
end
section
variable {X : Cx} {W : WX} {e a b c o : Expr} {es : List Expr} {f g h : EF} {p pos apos : Pos} {fs : En → Mem → R (List Val)} {j k : Nat} {x m cn : Str} {φ : List Val → Mem → R Val}
theorem run_cal {fa : Addr} {fd : FuncData} {ps : List Str} {sp : Sp} {pins : List (Addr × Obj)} {σ : L2.St} {H : Hp} {s : Shared} {Q : VK} {us : List Value} {vs : List V} (F : FnOk X.prog X.w X.K X.mg X.base (L2N.CX X.prog X.w) j fa fd ps sp) (hr : Room k X.A) (hk : j ≤ k) (hb : Binds X.K fd ps [])
    (tk : L2N.Takes X W) (I : Inv X pins σ H s) (r : Vals vs us) (h : sp vs H Q (fun c d H' => W c d σ H')) : wpAny (model X.prog X.w) X.A (call (.ref fa) us) (EP X pins σ Q) X.xe s := by
  have hl : (us ++ []).length = ps.length := by rw [List.append_nil, ← r.length]; exact F.len _ _ _ _ h
  have hb1 := hb s us I.kIn hl
  rw [List.append_nil] at hb1
  refine wpAny_call (codeAny_mono (F.run X.A X.stack s H ⟨us, []⟩ us vs Q _ (hr.mono hk) I.env0 hb1 r h) fun rr s' hq => ?_)
  cases rr with
  | error e1 => exact tk e1 s' (L2N.XE.of_call I (fun _ _ _ z => z) hq)
  | ok fl =>
    cases fl with
    | ret u => exact I.after hq
    | next => exact False.elim hq
    | brk => exact False.elim hq
    | cont => exact False.elim hq
def fCall (φ : List Val → Mem → R Val) (fs : En → Mem → R (List Val)) : EF := fun e M => rbind (fs e M) φ
theorem ve_call (cc : FCal X.prog X.w X.K X.mg X.base j x φ) (hr : Room k X.A) (hk : j ≤ k) (tk : L2N.Takes X W) (ha : VA X W (e :: es) fs) (hg : Gl X x) (hdb : (x == ("__debug__" : Str)) = false := by decide)
    (he : starEach (e :: es) X.env = (false, eval e X.env) :: starEach es X.env := by rfl) (hpl : (backTo pos (starEach es X.env)).any (·.1) = false := by rfl) : VE X W (.Call (.Name x p) (e :: es) [] pos) (fCall φ fs) := by
  obtain ⟨fa, fd, ps, F, hm, kp, hb⟩ := cc.ex
  replace F : FnOk X.prog X.w X.K X.mg X.base (L2N.CX X.prog X.w) j fa fd ps (spF (gm X) φ) := by rw [gm_calm hr.hd]; exact F
  refine ⟨fun pins s σ H Q I hh => ?_⟩
  refine wpAny_Call_Name_kw (ld_glob I hg hm ?_ hdb)
  have h2 : lifts (gm X) W fs σ H (fun vs H1 => spF (gm X) φ vs H1 Q (fun c d H' => W c d σ H')) := lifts_bind hh fun ρ env M H1 us ws es1 r q => ⟨ρ, M, ws, es1.gs, r, q⟩
  refine PySem.W.callWith_K (h₀ := X.base) I.ok.mod.kin kp (thn (ha.run pos pins s σ H _ I h2) fun us s1 ⟨vs, H1, I1, r, q⟩ => ⟨I1.kIn, ?_⟩) he hpl
  exact run_cal F hr hk hb tk I1 r q
theorem ve_call0 (cc : FCal X.prog X.w X.K X.mg X.base j x φ) (hr : Room k X.A) (hk : j ≤ k) (tk : L2N.Takes X W) (hg : Gl X x) (hdb : (x == ("__debug__" : Str)) = false := by decide) : VE X W (.Call (.Name x p) [] [] pos) (fCall φ fNil) := by
  obtain ⟨fa, fd, ps, F, hm, kp, hb⟩ := cc.ex
  replace F : FnOk X.prog X.w X.K X.mg X.base (L2N.CX X.prog X.w) j fa fd ps (spF (gm X) φ) := by rw [gm_calm hr.hd]; exact F
  refine ⟨fun pins s σ H Q I hh => ?_⟩
  refine wpAny_Call_Name_kw (ld_glob I hg hm ?_ hdb)
  obtain ⟨ρ, env, M, es1, q⟩ := hh
  exact PySem.W.callWith_K0 I.kIn kp (run_cal (us := []) F hr hk hb tk I .nil ⟨ρ, M, [], es1.gs, rfl, q⟩)
/-- an instance: its class, its fields -/
def insOf (M : Mem) : Val → Option (Str × List (Str × Val))
  | .d (.ins C fs) => some (C, fs.map fun p => (p.1, .d p.2))
  | .obj k => match M[k]? with
    | some (.ins C fs) => some (C, fs)
    | _ => none
  | _ => none
def lookF {α : Type} (f : Str) : List (Str × α) → Option α
  | [] => none
  | (g, x) :: r => if f = g then some x else lookF f r
theorem repF_map {mg : Mg} {ρ : Rho} {M : Mem} {H : Hp} : ∀ {gs : List (Str × D)} {us : List (Str × V)}, RepF mg (SM ρ M) H us gs → RepFV mg ρ M H us (gs.map fun p => (p.1, .d p.2))
  | [], _, h => h
  | (f, d) :: gs, _, h => by
    obtain ⟨u, r, e, h1, h2⟩ := h
    exact ⟨u, r, e, h1, repF_map h2⟩
theorem insOf_rep {mg : Mg} {ρ : Rho} {M : Mem} {H : Hp} {u : V} {v : Val} {gs : List (Str × Val)} (g : Gs mg ρ M H) (r : RepV mg ρ M H u v) (e : insOf M v = some (cn, gs)) : ∃ a C dx us, u = .ref a ∧ H a = some (.ins C dx us) ∧ mg.m cn = some (.ref C) ∧ RepFV mg ρ M H us gs := by
  cases v with
  | d x =>
    cases x <;> try (cases e; done)
    cases e
    obtain ⟨a, C, dx, us, e, h, n, m, q⟩ := r
    exact ⟨a, C, dx, us, e, h, m, repF_map q⟩
  | obj k =>
    unfold insOf at e
    dsimp only at e
    split at e
    · rename_i C fs el
      cases e
      obtain ⟨Ca, dx, us, h, m, q⟩ := g.at_ k _ el
      exact ⟨_, Ca, dx, us, r.1, h, m, q⟩
    · cases e
  | exc x => cases e
theorem lookF_rep {mg : Mg} {ρ : Rho} {M : Mem} {H : Hp} {f : Str} : ∀ {gs : List (Str × Val)} {us : List (Str × V)}, RepFV mg ρ M H us gs → match lookF f gs with
    | some v => ∃ u, us.lookup f = some u ∧ RepV mg ρ M H u v
    | none => us.lookup f = none
  | [], _, h => by cases h; rfl
  | (g, d) :: gs, _, h => by
    obtain ⟨u, r, rfl, h1, h2⟩ := h
    unfold lookF
    rw [List.lookup_cons]
    by_cases e : f = g
    · rw [if_pos e]
      have : (f == g) = true := by rw [e]; exact beq_self_eq_true g
      rw [this]
      exact ⟨u, rfl, h1.toV⟩
    · rw [if_neg e]
      have : (f == g) = false := beq_eq_false_iff_ne.mpr e
      rw [this]
      exact lookF_rep h2
/-- o.m(..), o of the class cn -/
def fMeth (cn m : Str) (φ : List Val → Mem → R Val) (f : EF) (fs : En → Mem → R (List Val)) : EF := fun e M => rbind (f e M) fun v M1 => match insOf M1 v with
  | some (C, gs) => if C = cn ∧ (lookF m gs).isNone = true then rbind (fs e M1) fun ws M2 => φ (v :: ws) M2 else .bad
  | none => .bad
theorem meth_at {ρ : Rho} {M : Mem} {H : Hp} {u : V} {v : Val} {gs : List (Str × Val)} {C : Addr} (g : Gs (gm X) ρ M H) (r : RepV (gm X) ρ M H u v) (e : insOf M v = some (cn, gs)) (hm : X.mg cn = some (.ref C)) (hn : (lookF m gs).isNone = true) :
    ∃ a dx us, u = .ref a ∧ H a = some (.ins C dx us) ∧ us.lookup m = none := by
  obtain ⟨a, C', dx, us, rfl, h, mc, q⟩ := insOf_rep g r e
  have : C' = C := by
    have z : X.mg cn = some (.ref C') := mc
    rw [hm] at z; cases z; rfl
  subst this
  have lk := lookF_rep (f := m) q
  cases hl : lookF m gs with
  | none => rw [hl] at lk; exact ⟨a, dx, us, rfl, h, lk⟩
  | some _ => rw [hl] at hn; cases hn
theorem ve_meth {pl : Sem Bool} (cc : MCal X.prog X.w X.K X.mg X.base j cn m φ) (hr : Room k X.A) (hk : j ≤ k) (tk : L2N.Takes X W) (ho : VE X W o f) (ha : VA X W (e :: es) fs)
    (hst : starEach (e :: es) X.env = (false, eval e X.env) :: starEach es X.env := by rfl) (hpl : (backTo pos (starEach es X.env)).any (·.1) = false := by rfl)
    (ht : eval (.Call (.Attribute o m apos) (e :: es) [] pos) X.env = (do
      let v0 ← eval o X.env
      standAt apos.atName
      let (f0, first) ← holding [v0] (getMethod v0 m pl)
      callWith pos f0 first (backTo pos (starEach (e :: es) X.env)) (backToKw pos (keywordEach [] X.env))) := by rfl) : VE X W (.Call (.Attribute o m apos) (e :: es) [] pos) (fMeth cn m φ f fs) := by
  obtain ⟨C, fa, fd, ps, F, hmg, hc, hm, hb⟩ := cc.ex
  replace F : FnOk X.prog X.w X.K X.mg X.base (L2N.CX X.prog X.w) j fa fd ps (spF (gm X) φ) := by rw [gm_calm hr.hd]; exact F
  refine ⟨fun pins s σ H Q I hh => ?_⟩
  have h2 : lift (gm X) W f σ H (fun x H1 => ∃ a dx us, x = .ref a ∧ H1 a = some (.ins C dx us) ∧ us.lookup m = none ∧ lifts (gm X) W fs σ H1 (fun vs H2 => spF (gm X) φ (.ref a :: vs) H2 Q (fun c d H' => W c d σ H'))) := by
    refine lift_bind hh fun ρ env M H1 u v es1 r q => ?_
    split at q
    · rename_i C0 gs ei
      split at q
      · rename_i hcn
        obtain ⟨rfl, hn⟩ := hcn
        obtain ⟨a, dx, us, rfl, h, lk⟩ := meth_at es1.gs r ei hmg hn
        refine ⟨a, dx, us, rfl, h, lk, ρ, env, M, es1, (Konts.bind q).mono (fun vs H2 ⟨ρ2, M2, ws, s2, g2, r2, q2⟩ => ?_) fun _ _ _ z => z⟩
        exact ⟨ρ2, M2, v :: ws, g2, ⟨_, _, rfl, r.step s2, r2⟩, q2⟩
      · exact q.elim
    · exact q.elim
  refine PySem.W.methodCall_KW (pl := pl) (thn (ho.run pins s σ H _ I h2) fun u s1 ⟨x, H1, I1, rx, a, dx, us, ex, ea, l, q⟩ => ?_) ht
  subst ex
  obtain rfl : u = Value.ref a := rx
  refine getmeth_ok I1 ea hc hm l ?_
  refine PySem.W.callWith_K (first := [.ref a]) (h₀ := X.base) I.ok.mod.kin hm.kp (thn (ha.run pos pins s1 σ H1 _ I1 q) fun us s2 ⟨vs, H2, I2, r, q2⟩ => ⟨I2.kIn, ?_⟩) hst hpl
  exact run_cal (us := .ref a :: us) (vs := .ref a :: vs) F hr hk hb tk I2 (.cons rfl r) q2
theorem ve_meth0 {pl : Sem Bool} (cc : MCal X.prog X.w X.K X.mg X.base j cn m φ) (hr : Room k X.A) (hk : j ≤ k) (tk : L2N.Takes X W) (ho : VE X W o f)
    (ht : eval (.Call (.Attribute o m apos) [] [] pos) X.env = (do
      let v0 ← eval o X.env
      standAt apos.atName
      let (f0, first) ← holding [v0] (getMethod v0 m pl)
      callWith pos f0 first (backTo pos (starEach [] X.env)) (backToKw pos (keywordEach [] X.env))) := by rfl) : VE X W (.Call (.Attribute o m apos) [] [] pos) (fMeth cn m φ f fNil) := by
  obtain ⟨C, fa, fd, ps, F, hmg, hc, hm, hb⟩ := cc.ex
  replace F : FnOk X.prog X.w X.K X.mg X.base (L2N.CX X.prog X.w) j fa fd ps (spF (gm X) φ) := by rw [gm_calm hr.hd]; exact F
  refine ⟨fun pins s σ H Q I hh => ?_⟩
  have h2 : lift (gm X) W f σ H (fun x H1 => ∃ a dx us, x = .ref a ∧ H1 a = some (.ins C dx us) ∧ us.lookup m = none ∧ spF (gm X) φ [.ref a] H1 Q (fun c d H' => W c d σ H')) := by
    refine lift_bind hh fun ρ env M H1 u v es1 r q => ?_
    split at q
    · rename_i C0 gs ei
      split at q
      · rename_i hcn
        obtain ⟨rfl, hn⟩ := hcn
        obtain ⟨a, dx, us, rfl, h, lk⟩ := meth_at es1.gs r ei hmg hn
        exact ⟨a, dx, us, rfl, h, lk, ρ, M, [v], es1.gs, ⟨_, _, rfl, r, rfl⟩, q⟩
      · exact q.elim
    · exact q.elim
  refine PySem.W.methodCall_KW (pl := pl) (thn (ho.run pins s σ H _ I h2) fun u s1 ⟨x, H1, I1, rx, a, dx, us, ex, ea, l, q⟩ => ?_) ht
  subst ex
  obtain rfl : u = Value.ref a := rx
  refine getmeth_ok I1 ea hc hm l ?_
  exact PySem.W.callWith_K0 (first := [.ref a]) I1.kIn hm.kp (run_cal (us := [.ref a]) (vs := [.ref a]) F hr hk hb tk I1 (.cons rfl .nil) q)
end
end Vl
set_option Elab.async false
set_option linter.all false
set_option maxRecDepth 100000
/-! Vl10: attributes, new instances, stores. -/
namespace Vl
open PySem PySem.Spec PyProof.Rows L2

/-- instances of cn bear f in their own dict -/
structure Fld (K : PySem.W.Frag) (mg : Str → Option Value) (cn f : Str) : Prop where
  ex : ∃ C, mg cn = some (.ref C) ∧ Cls K C ∧ NoAttr K C f
def fAttr (cs : List Str) (n : Str) (f : EF) : EF := fun e M => rbind (f e M) fun v M1 => match insOf M1 v with
  | some (C, gs) => if C ∈ cs then (match lookF n gs with
    | some x => .ok x M1
    | none => .bad) else .bad
  | none => .bad
def putG (f : Str) (v : Val) : List (Str × Val) → List (Str × Val)
  | [] => [(f, v)]
  | (g, x) :: r => if g = f then (g, v) :: r else (g, x) :: putG f v r
theorem putG_rep {mg : Mg} {ρ : Rho} {M : Mem} {H : Hp} {f : Str} {y : V} {v : Val} (ry : RepW mg ρ M H y v) : ∀ {gs : List (Str × Val)} {us : List (Str × V)}, RepFV mg ρ M H us gs → RepFV mg ρ M H (putF f y us) (putG f v gs)
  | [], _, h => by cases h; exact ⟨y, [], rfl, ry, rfl⟩
  | (g, d) :: gs, _, h => by
    obtain ⟨u, r, rfl, h1, h2⟩ := h
    unfold putF putG
    by_cases e : g = f
    · rw [if_pos e, if_pos e]; exact ⟨y, r, rfl, ry, h2⟩
    · rw [if_neg e, if_neg e]; exact ⟨u, _, rfl, h1, putG_rep ry h2⟩
theorem repFV_length {mg : Mg} {ρ : Rho} {M : Mem} {H : Hp} : ∀ {gs : List (Str × Val)} {us : List (Str × V)}, RepFV mg ρ M H us gs → us.length = gs.length
  | [], _, h => by cases h; rfl
  | (g, d) :: gs, _, h => by
    obtain ⟨u, r, rfl, h1, h2⟩ := h
    simp [repFV_length h2]
section
variable {X : Cx} {W : WX} {e a b c o : Expr} {es : List Expr} {f g h : EF} {p pos pos' apos : Pos} {fs : En → Mem → R (List Val)} {j k : Nat} {x m cn n : Str} {φ : List Val → Mem → R Val} {cs : List Str}
theorem ve_attr (hf : ∀ cn ∈ cs, Fld X.K X.mg cn n) (he : VE X W e f) (hb : attributeBase e n X.env (eval e X.env) = eval e X.env := by rfl) : VE X W (.Attribute e n pos) (fAttr cs n f) := pe_imp (pe_fld he hb) fun σ H Q hh => by
  refine lift_bind hh fun ρ env M H1 u v es1 r q => ?_
  split at q
  · rename_i C0 gs ei
    split at q
    · rename_i hc
      split at q
      · rename_i x el
        obtain ⟨C, mc, hcl, hna⟩ := (hf _ hc).ex
        obtain ⟨a, C', dx, us, rfl, h, mc', rr⟩ := insOf_rep es1.gs r ei
        have : C' = C := by
          have z : X.mg C0 = some (.ref C') := mc'
          rw [mc] at z; cases z; rfl
        subst this
        have lk := lookF_rep (f := n) rr
        rw [el] at lk
        obtain ⟨y, ly, ry⟩ := lk
        exact ⟨a, C', dx, us, y, rfl, h, hcl, hna, ly, q ρ y H1 .refl es1.gs ry⟩
      · exact q.elim
    · exact q.elim
  · exact q.elim
/-- o.f = value -/
def putA (cs : List Str) (n : Str) (v w : Val) (M : Mem) : Option Mem := match w with
  | .obj k => (match M[k]? with
    | some (.ins C gs) => if C ∈ cs ∧ gs.length < 1000 ∧ noX v = true then some (M.set k (.ins C (putG n v gs))) else none
    | _ => none)
  | _ => none
def sAttr (cs : List Str) (n : Str) (fo fv : EF) : SF := fun e M => rO (fv e M) e fun v M1 => rO (fo e M1) e fun w M2 => match putA cs n v w M2 with
  | some M3 => .nx e M3
  | none => .bad
theorem putA_ok {ρ : Rho} {M M' : Mem} {H : Hp} {x y : V} {v w : Val} (hf : ∀ cn ∈ cs, Fld X.K X.mg cn n) (g : Gs (gm X) ρ M H) (ry : RepV (gm X) ρ M H y v) (rx : RepV (gm X) ρ M H x w) (e : putA cs n v w M = some M') :
    ∃ a C dx us, x = .ref a ∧ H a = some (.ins C dx us) ∧ Cls X.K C ∧ NoAttr X.K C n ∧ us.length < 1000 ∧ Stp ρ M H ρ M' (upd H a (.ins C dx (putF n y us))) ∧ Gs (gm X) ρ M' (upd H a (.ins C dx (putF n y us))) := by
  unfold putA at e
  split at e
  · rename_i k
    split at e
    · rename_i C0 gs el
      split at e
      · rename_i hc
        cases e
        obtain ⟨C, mc, hcl, hna⟩ := (hf _ hc.1).ex
        obtain ⟨C', dx, us, h, mc', rr⟩ := g.at_ k _ el
        have : C' = C := by
          have z : X.mg C0 = some (.ref C') := mc'
          rw [mc] at z; cases z; rfl
        subst this
        have lk : Live M k := ⟨_, el, by intro z; cases z⟩
        have st := write_step g lk (.ins C' dx (putF n y us)) (.ins C0 (putG n v gs))
        exact ⟨_, C', dx, us, rx.1, h, hcl, hna, by rw [repFV_length rr]; exact hc.2.1, st, g.write lk ⟨C', dx, _, upd_same, mc', RepFV.step st (putG_rep (ry.toW hc.2.2) rr)⟩⟩
      · cases e
    · cases e
  · cases e
theorem vs_attr {value : Expr} (hf : ∀ cn ∈ cs, Fld X.K X.mg cn n) (ho : VE X W o f) (hv : VE X W value g) (hs : swapsWith value (some (.Attribute o n pos')) pos.line X.env = pure false := by rfl) : VS X W (.Assign [.Attribute o n pos'] value pos) (sAttr cs n f g) := ps_imp (ps_fld ho hv hs) fun D σ H hh => by
  refine liftS_bind hh fun ρ env M H1 y v es1 ry q => ⟨ρ, env, M, es1, (Kont.toS es1 q).mono (fun x H2 ⟨ρ2, M2, w, s2, es2, rx, q2⟩ => ?_) fun _ _ _ z => z⟩
  split at q2
  · rename_i M3 e3
    obtain ⟨a, C, dx, us, rfl, h, hcl, hna, hl, st, g3⟩ := putA_ok hf es2.gs (ry.step s2) rx e3
    exact ⟨a, C, dx, us, rfl, h, hcl, hna, hl, q2 ρ2 σ _ st (es2.step st g3)⟩
  · exact q2.elim
/-- o.f += value (ints) -/
def sAttrAdd (cs : List Str) (n : Str) (fo fv : EF) : SF := fun e M => rO (fo e M) e fun w M1 => match insOf M1 w with
  | some (C, gs) => if C ∈ cs then (match lookF n gs with
    | some (.d (.int i)) => rO (fv e M1) e fun v M2 => (match v with
      | .d (.int j) => (match insOf M2 w, putA cs n (.d (.int (i + j))) w M2 with
        | some (C2, _), some M3 => if C2 = C then .nx e M3 else .bad
        | _, _ => .bad)
      | _ => .bad)
    | _ => .bad) else .bad
  | none => .bad
theorem vs_attrAdd {value : Expr} (hf : ∀ cn ∈ cs, Fld X.K X.mg cn n) (ho : VE X W o f) (hv : VE X W value g) : VS X W (.AugAssign (.Attribute o n apos) .Add value pos) (sAttrAdd cs n f g) := ps_imp (ps_fldaug ho hv in_add) fun D σ H hh => by
  refine liftS_bind hh fun ρ env M H1 u v es1 r q => ?_
  split at q
  · rename_i C0 gs ei
    split at q
    · rename_i hc
      split at q
      · rename_i i el
        obtain ⟨C, mc, hcl, hna⟩ := (hf _ hc).ex
        obtain ⟨a, C', dx, us, rfl, h, mc', rr⟩ := insOf_rep es1.gs r ei
        have eC : C' = C := by
          have z : X.mg C0 = some (.ref C') := mc'
          rw [mc] at z; cases z; rfl
        subst eC
        have lk := lookF_rep (f := n) rr
        rw [el] at lk
        obtain ⟨y, ly, ry⟩ := lk
        cases ry
        refine ⟨a, C', dx, us, _, rfl, h, hcl, hna, ly, ρ, env, M, es1, (Kont.toS es1 q).mono (fun x H2 ⟨ρ2, M2, w, s2, es2, rx, q2⟩ => ?_) fun _ _ _ z => z⟩
        split at q2
        · rename_i j
          split at q2
          · rename_i C2 gs2 M3 ei2 e3
            split at q2
            · rename_i hcc
              subst hcc
              refine ⟨i, j, rfl, rx, ?_⟩
              obtain ⟨a2, C2, dx2, us2, ea, h2, hcl2, hna2, hl2, st, g3⟩ := putA_ok (v := .d (.int (i + j))) hf (y := .int (i + j)) es2.gs (show V.int (i + j) = V.int (i + j) from rfl) (r.step s2) e3
              cases ea
              obtain ⟨a3, C3, dx3, us3, ea3, h3, mc3, rr3⟩ := insOf_rep es2.gs (r.step s2) ei2
              cases ea3
              have eC3 : C3 = C' := by
                have z : X.mg _ = some (.ref C3) := mc3
                rw [mc] at z; cases z; rfl
              subst eC3
              rw [h2] at h3
              cases h3
              exact ⟨dx2, us2, h2, hl2, q2 ρ2 σ _ st (es2.step st g3)⟩
            · exact q2.elim
          · exact q2.elim
        · exact q2.elim
      · exact q.elim
    · exact q.elim
  · exact q.elim

/-! ### new instances -/
def dFs : List (Str × Val) → Option (List (Str × D))
  | [] => some []
  | (f, .d x) :: r => (dFs r).map ((f, x) :: ·)
  | (_, .obj _) :: _ => none
  | (_, .exc _) :: _ => none
theorem dFs_rep {mg : Mg} {ρ : Rho} {M : Mem} {H : Hp} : ∀ {gs : List (Str × Val)} {us : List (Str × V)} {ds : List (Str × D)}, RepFV mg ρ M H us gs → dFs gs = some ds → RepF mg (SM ρ M) H us ds
  | [], _, _, h, e => by cases e; exact h
  | (f, .obj _) :: _, _, _, _, e => by cases e
  | (f, .exc _) :: _, _, _, _, e => by cases e
  | (f, .d x) :: r, _, _, h, e => by
    simp only [dFs, Option.map_eq_some_iff] at e
    obtain ⟨ds, e, rfl⟩ := e
    obtain ⟨u, us, rfl, h1, h2⟩ := h
    exact ⟨u, us, rfl, h1, dFs_rep h2 e⟩
/-- the new instance never changes from here on -/
noncomputable def mkD (M1 M2 : Mem) : R Val := open Classical in if OkCut M1 M2 then (match M2[M1.length]? with
  | some (.ins C gs) => (match dFs gs with
    | some ds => .ok (.d (.ins C ds)) (M2.take M1.length)
    | none => .bad)
  | _ => .bad) else .bad
noncomputable def mkX (M1 M2 : Mem) (x : Exn) : R Val := open Classical in if OkCut M1 M2 then .err x (M2.take M1.length) else .bad
noncomputable def mkIns (fr : Bool) (cn : Str) (φ : List Val → Mem → R Val) (ws : List Val) (M1 : Mem) : R Val := match φ (.obj M1.length :: ws) (M1 ++ [.ins cn []]) with
  | .ok (.d .non) M2 => if fr = true then mkD M1 M2 else .ok (.obj M1.length) M2
  | .err x M2 => mkX M1 M2 x
  | _ => .bad
noncomputable def fMake (fr : Bool) (cn : Str) (φ : List Val → Mem → R Val) (fs : En → Mem → R (List Val)) : EF := fun e M => rbind (fs e M) (mkIns fr cn φ)
theorem mkIns_ok {ρ : Rho} {M : Mem} {H : Hp} {vs : List V} {ws : List Val} {fr : Bool} {C x dx : Addr} {Q : VK} {E : XK} (hm : X.mg cn = some (.ref C)) (g : Gs (gm X) ρ M H) (r : RepVs (gm X) ρ M H vs ws) (hx : H x = none) (hd : H dx = none) (hne : dx ≠ x)
    (q : Kont (gm X) ρ M H (mkIns fr cn φ ws M) Q E) : spF (gm X) φ (.ref x :: vs) (upd (upd H dx (.own x)) x (.ins C dx [])) (fun v H2 => v = .non ∧ Q (.ref x) H2) E := by
  obtain ⟨s1, g1, n1⟩ := g.alloc hd (.own x)
  have hx1 : upd H dx (.own x) x = none := by rw [upd_ne hne.symm]; exact hx
  have s2 := push_step g1 hx1 (.ins C dx []) (.ins cn [])
  have g2 : Gs (gm X) (rput ρ M.length x) (M ++ [.ins cn []]) (upd (upd H dx (.own x)) x (.ins C dx [])) := g1.push hx1 ⟨C, dx, [], upd_same, hm, rfl⟩
  have st := s1.trans s2
  refine ⟨_, _, .obj M.length :: ws, g2, ⟨_, _, rfl, ⟨by rw [rput_same], by simp⟩, r.step st⟩, ?_⟩
  unfold mkIns at q
  revert q
  cases hφ : φ (.obj M.length :: ws) (M ++ [.ins cn []]) with
  | bad => exact fun q => q
  | err xx M2 =>
    intro q ρ3 cls d H3 s3 g3 rx
    replace q : Kont (gm X) ρ M H (mkX M M2 xx) Q E := q
    unfold mkX at q
    split at q
    · rename_i hk
      obtain ⟨s4, g4⟩ := cut_gs g (st.trans s3) g3 hk
      have k : ∀ a o, H3 a = some o → ¬ SM ρ3 M2 a → H3 a = some o ∧ ¬ SM ρ3 (M2.take M.length) a := fun a o e m => ⟨e, fun z => m (SM_take z)⟩
      refine q ρ3 cls d H3 s4 g4 ?_
      obtain ⟨C1, e1, e2, h⟩ := rx
      exact ⟨C1, e1, e2, h.imp id fun ⟨dd, fs, a, b, c, e⟩ => ⟨dd, fs, a, b, fun z => c (SM_take z), RepF.mono k e⟩⟩
    · exact q.elim
  | ok v M2 =>
    intro q ρ3 u H3 s3 g3 rv
    split at q
    · rename_i M3 e3
      injection e3 with e3 e4
      subst e3; subst e4
      refine ⟨rv, ?_⟩
      have hat : ρ3 M.length = x := (s3.rho _ (by simp)).trans rput_same
      have hlen : M.length < M2.length := Nat.lt_of_lt_of_le (by simp) s3.len
      split at q
      · unfold mkD at q
        split at q
        · rename_i hk
          obtain ⟨s4, g4⟩ := cut_gs g (st.trans s3) g3 hk
          split at q
          · rename_i C0 gs el
            split at q
            · rename_i ds ed
              obtain ⟨Ca, dx2, us, h, mc, rr⟩ := g3.at_ _ _ el
              refine q ρ3 _ H3 s4 g4 ⟨x, Ca, dx2, us, rfl, by rw [← hat]; exact h, fun z => ?_, mc, RepF.mono (fun a o e m => ⟨e, fun z => m (SM_take z)⟩) (dFs_rep rr ed)⟩
              rcases z with z | ⟨i, l, ei⟩
              · exact g3.zlv M.length ⟨_, el, by intro z; cases z⟩ (by rw [hat]; exact z)
              · have := g3.inj i M.length (live_take l).2 ⟨_, el, by intro z; cases z⟩ (ei.trans hat.symm)
                have := (live_take l).1
                omega
            · exact q.elim
          · exact q.elim
        · exact q.elim
      · exact q ρ3 _ H3 (st.trans s3) g3 ⟨by rw [hat], hlen⟩
    · rename_i xx M3 e3
      cases e3
    · exact q.elim
theorem run_mk {C fa : Addr} {fd : FuncData} {ps : List Str} {pins : List (Addr × Obj)} {σ : L2.St} {H : Hp} {s : Shared} {Q : VK} {us : List Value} {vs : List V} {sp : Sp} (mk : Mk X.K C fa) (F : FnOk X.prog X.w X.K X.mg X.base (L2N.CX X.prog X.w) j fa fd ps sp) (hr : Room k X.A) (hk : j + 1 ≤ k) (hb : Binds X.K fd ps [])
    (tk : L2N.Takes X W) (I : Inv X pins σ H s) (r : Vals vs us)
    (hsp : ∀ x dx, H x = none → H dx = none → dx ≠ x → sp (.ref x :: vs) (upd (upd H dx (.own x)) x (.ins C dx [])) (fun v H2 => v = .non ∧ Q (.ref x) H2) (fun c d H' => W c d σ H')) :
    wpAny (model X.prog X.w) X.A (call (.ref C) us) (EP X pins σ Q) X.xe s := by
  have hq := hsp (s.heap.objs.size + 1) s.heap.objs.size (I.hok.fresh (Nat.le_succ _)) (I.hok.fresh (Nat.le_refl _)) (Nat.ne_of_lt (Nat.lt_succ_self _))
  have J := Inv.made (C := C) I
  have r2 : Vals (V.ref (s.heap.objs.size + 1) :: vs) (Value.ref (s.heap.objs.size + 1) :: us) := .cons rfl r
  have hl : (Value.ref (s.heap.objs.size + 1) :: us ++ []).length = ps.length := by
    rw [List.append_nil, ← r2.length]
    exact F.len _ _ _ _ hq
  have hb1 := hb { s with heap := (s.heap.push PySem.W.emptyDict).push (PySem.W.instObj C s.heap.objs.size) } (Value.ref (s.heap.objs.size + 1) :: us) J.kIn hl
  rw [List.append_nil] at hb1
  refine wpAny_call (make_map (f := fa) I.kIn mk.makes mk.init (beq_iff_eq.mp mk.fn) (codeAny_mono (F.run _ X.stack _ _ ⟨Value.ref (s.heap.objs.size + 1) :: us, []⟩ _ _ _ _ ((hr.mono hk).make C us []) (J.env0.make C us []) hb1 r2 hq) fun rr s' hq' => ?_))
  cases rr with
  | error e1 => exact tk e1 s' (L2N.XE.of_call J (fun _ _ _ z => z) hq')
  | ok fl =>
    cases fl with
    | ret u =>
      obtain ⟨v, H', I3, rv, ev, q3⟩ := J.after hq'
      subst ev
      exact ⟨rv, ⟨V.ref (s.heap.objs.size + 1), H', I3, rfl, q3⟩⟩
    | next => exact False.elim hq'
    | brk => exact False.elim hq'
    | cont => exact False.elim hq'
theorem ve_make (fr : Bool) (cc : NCal X.prog X.w X.K X.mg X.base j cn φ) (hr : Room k X.A) (hk : j + 1 ≤ k) (tk : L2N.Takes X W) (ha : VA X W (e :: es) fs) (hg : Gl X cn) (hdb : (cn == ("__debug__" : Str)) = false := by decide)
    (he : starEach (e :: es) X.env = (false, eval e X.env) :: starEach es X.env := by rfl) (hpl : (backTo pos (starEach es X.env)).any (·.1) = false := by rfl) : VE X W (.Call (.Name cn p) (e :: es) [] pos) (fMake fr cn φ fs) := by
  obtain ⟨C, fa, fd, ps, F, hm, mk, hb⟩ := cc.ex
  replace F : FnOk X.prog X.w X.K X.mg X.base (L2N.CX X.prog X.w) j fa fd ps (spF (gm X) φ) := by rw [gm_calm hr.hd]; exact F
  refine ⟨fun pins s σ H Q I hh => ?_⟩
  refine wpAny_Call_Name_kw (ld_glob I hg hm ?_ hdb)
  have h2 : lifts (gm X) W fs σ H (fun vs H1 => ∀ x dx, H1 x = none → H1 dx = none → dx ≠ x → spF (gm X) φ (.ref x :: vs) (upd (upd H1 dx (.own x)) x (.ins C dx [])) (fun v H2 => v = .non ∧ Q (.ref x) H2) (fun c d H' => W c d σ H')) :=
    lifts_bind hh fun ρ env M H1 us ws es1 r q x dx hx hd hne => mkIns_ok hm es1.gs r hx hd hne q
  refine PySem.W.callWith_K (h₀ := X.base) I.ok.mod.kin mk.kp (thn (ha.run pos pins s σ H _ I h2) fun us s1 ⟨vs, H1, I1, r, q⟩ => ⟨I1.kIn, ?_⟩) he hpl
  exact run_mk mk F hr hk hb tk I1 r q
end
end Vl
set_option Elab.async false
set_option linter.all false
set_option maxRecDepth 100000
set_option maxHeartbeats 2000000
/-! Vx0: an own exception over ValueError, over a class of the program perhaps: its __init__ says super().__init__(..), then stores its fields. -/
namespace Vx
open PySem PySem.Spec PySem.Calls PyProof.Rows PySem.W
section
variable {prog : Program} {w : World} {A : Around} {E : Value → Shared → Prop} {h : Heap} {g : Array GenState} {d : Drawn} {t : Nat} {os : OsState}
variable {nm q : Str} {C N : Addr} {bs bm : List Value} {hdct : Bool} {sn : List Str} {sub : List Value} {ab : Bool} {col : Option Bool} {dd : Option Addr} {k0 k1 k2 k3 k5 : Option Value}
/-- the bound ValueError.__init__ is called -/
theorem call_mwV {u e t0 : Addr} {rest : List Value} {Q : Value → Shared → Prop} (hC : h.get? C = some (excClassObj nm q C N bs bm hdct sn sub ab col dd k0 k1 k2 k3 k5 "ValueError.__new__")) (he : h.get? e = some (HandSPX.excO C t0))
    (hu : h.get? u = some (kxs_mw "ValueError.__init__" e)) (hz : rest.length ≤ sizeLine) (k : ∀ h' t1, (∀ b o, b ≠ e → h.get? b = some o → h'.get? b = some o) → h'.get? e = some (HandSPX.excO C t1) → Q .none ⟨h', g, d, t, os⟩) :
    wpAny (model prog w) A (call (.ref u) rest) Q E ⟨h, g, d, t, os⟩ := by
  have FB := F.excBase_ValueError
  refine wpAny_call (codeAny_of_tree ?_)
  show wpAny (model prog w) A.in1 (callAny (.ref u) ⟨rest, []⟩) _ _ _
  simp only [callAny]
  refine wpAny_bind (wpAny_load hu ?_)
  simp only [kxs_mw, show (Value.type "method-wrapper" == Value.type "method" || Value.type "method-wrapper" == Value.type "builtin_function_or_method" || Value.type "method-wrapper" == Value.type "method-wrapper") = true by decide, if_true]
  refine KFB.if_so (by decide) ?_
  refine wpAny_bind (check_bound_init FB.toExcCallFacts hC he rfl ?_)
  refine wpAny_bind (wpAny_pure (wpAny_pure ?_))
  refine ⟨plainId_quiet FB.init.plain _, codeAny_builtin FB.initEntry ?_⟩
  exact exc_init_tree (cls := .ref C) (t0 := t0) (dv := none) (c2 := .none) (c3 := .none) (b4 := .bool false) he hz fun h' k1 e1 _ => k h' h.objs.size k1 e1
end
section
variable {prog : Program} {w : World} {A : Around} {E : Value → Shared → Prop} {K : Frag} {mg : Str → Option Value} {s : Shared} {L fI cc cda C D e t0 : Addr} {m : Str → Option Value} {q : Str} {scope : Scope} {body : List Stmt} {p0 p1 p2 p4 p5 : Pos} {args : List Expr}
  {fd : FuncData} {ar : Arg} {vs : Array Value} {file : Str} {tf : Tok} {oc ccl cl : Value} {od cdd cld : Option Addr} {osl ccs csl : Array (Option Value)} {cdD : ClassData}
  {nm q2 : Str} {N : Addr} {bs bm : List Value} {hdct : Bool} {sn : List Str} {sub : List Value} {ab : Bool} {col : Option Bool} {dd : Option Addr} {k0 k1 k2 k3 k5 : Option Value}
theorem super_stmt {pl : Sem Bool} {Q : Flow → Shared → Prop} {us : List Value} (X : K.In s.heap) (G : s.heap.Ns mainGlobals mg) (hmg : mg "super" = none) (Bt : ∃ mb, s.heap.Ns builtinsNs mb ∧ ∀ x : Str, x ≠ "__name__" → mb x = bootBuiltins x) (hL : s.heap.Ns L m)
    (hf : K.lookup fI = some ⟨oc, od, .func fd, osl⟩) (hp : (fd.params.posonlyargs ++ fd.params.args).head? = some ar) (hv : m ar.arg = some (.ref e)) (he : s.heap.get? e = some (HandSPX.excO C t0))
    (hcode : K.lookup cda = some ⟨ccl, cdd, .fields vs, ccs⟩) (hvs : vs[2]? = some (.str file tf)) (hfile : ((prog.main.file : Str) == file) = true)
    (hcell : K.lookup cc = some ⟨cl, cld, .cell (some (.ref C)), csl⟩) (hC : K.lookup C = some (excClassObj nm q2 C N bs bm hdct sn sub ab col dd k0 k1 k2 k3 k5 "ValueError.__new__"))
    (hsub : mroIn K C (.ref C) = some true) (hsV : subIn K (.ref C) (.type "ValueError") = some true) (hal : alongIn K "__init__" bm = some (some (.builtin "ValueError.__init__"))) (hop : nsIn K cStatics "thirdparty.any" = some none)
    (hks : scope.names.lookup ("super" : Str) = some .globalImplicit) (hkc : scope.names.lookup ("__class__" : Str) = some .free) (hka : scope.names.lookup ar.arg = some .local) (hk : scope.kind = .function)
    (htop : (prog.main.scope.names.lookup ("super" : Str)).isSome = false) (hboot : bootBuiltins "super" = some (.type "super"))
    (hargs : ∀ (s' : Shared) (Q : List Value → Shared → Prop), s'.heap.Ns L m → Q us s' → wpAny (model prog w) A (spliced (backTo p4 (starEach args (ksEnv q scope L fI (.ref cda) cc)))) Q E s')
    (hpl : (backTo p4 (starEach args (ksEnv q scope L fI (.ref cda) cc))).any (·.1) = false) (hne : ∃ x r, backTo p4 (starEach args (ksEnv q scope L fI (.ref cda) cc)) = (false, x) :: r) (hz : us.length ≤ sizeLine) (heL : e ≠ L)
    (heval : eval (.Call (.Attribute (.Call (.Name "super" p0) [] [] p1) "__init__" p2) args [] p4) (ksEnv q scope L fI (.ref cda) cc) = (do
      let ov ← attributeBase (.Call (.Name "super" p0) [] [] p1) "__init__" (ksEnv q scope L fI (.ref cda) cc) (eval (.Call (.Name "super" p0) [] [] p1) (ksEnv q scope L fI (.ref cda) cc))
      standAt p2.atName
      let (f, first) ← holding [ov] (getMethod ov "__init__" pl)
      callWith p4 f first (backTo p4 (starEach args (ksEnv q scope L fI (.ref cda) cc))) []))
    (hsw : swapsWith (.Call (.Attribute (.Call (.Name "super" p0) [] [] p1) "__init__" p2) args [] p4) none p5.line (ksEnv q scope L fI (.ref cda) cc) = pure false) (hint : interactive (ksEnv q scope L fI (.ref cda) cc) = false)
    (k : ∀ h' t1 tk, (∀ b o, b ≠ e → s.heap.get? b = some o → h'.get? b = some o) → h'.get? e = some (HandSPX.excO C t1) → Q .next { s with heap := h', toks := tk }) :
    _root_.PySem.wpAt (model prog w) A (.func body (ksEnv q scope L fI (.ref cda) cc)) (exec (.Expr (.Call (.Attribute (.Call (.Name "super" p0) [] [] p1) "__init__" p2) args [] p4) p5) (ksEnv q scope L fI (.ref cda) cc)) Q E s := by
  obtain ⟨hh, g, d, t, os⟩ := s
  obtain ⟨mb, hb, hbb⟩ := Bt
  have I : InstAt hh e (HandSPX.excO C t0) C none := ⟨he, rfl, rfl, trivial⟩
  have hclC : clsIn K C = some { name := nm, bases := bs, mro := .ref C :: bm, ns := N, qualname := q2, hasDict := hdct, slotNames := sn, subclasses := sub, abstract := ab, collection := col, hasDel := false } := by
    unfold clsIn
    rw [hC] <;> rfl
  have hCh := X _ _ hC
  refine ks_wpAt_Expr_any (ks_wpAt_MethodCall (pl := pl) ?_ heval) hint hsw
  refine ks_wpAt_super_base (env := ksEnv q scope L fI (.ref cda) cc) hks hkc rfl rfl (X _ _ hf) rfl hp rfl (X _ _ hcode) rfl hvs hfile htop ?_
  refine ks_loadName_global hk hks (loadGlobal_builtin (env := ksEnv q scope L fI (.ref cda) cc) G hmg hb ((hbb _ (by decide)).trans hboot) ⟨rfl, ?_⟩)
  refine wpAny_loadName_free hk hkc rfl ⟨_, X _ _ hcell, rfl⟩ ?_
  refine wpAny_loadName_local hk hka hL hv ?_
  refine ks_wpAny_isType_cls hCh rfl ⟨rfl, ?_⟩
  refine ks_wpAny_call_super hCh rfl he rfl (fun c z => nomatch z) (looks_mroIn X hsub) fun h1 e1 kk1 => ?_
  have X1 : K.In h1 := X.keeps kk1
  have I1 : InstAt h1 e (HandSPX.excO C t0) C none := ⟨kk1 _ _ he, rfl, rfl, trivial⟩
  refine kxs_getMethod (B := "ValueError") (i := "ValueError.__init__") (l₀ := .ref C :: bm) (l := bm) kxs_ValueError e1 (looks_opaque X1 hop) ?_ ?_ X1 hal (I1.type.andThen (looks_subIn X1 hsV)) (ks_ne X1 I1 hclC) rfl ?_
  · exact (looks_clsIn X1 hclC).andThen .now
  · simp [List.dropWhile_cons]
  · obtain ⟨x, r, hx⟩ := hne
    have kk2 : ∀ b o, hh.get? b = some o → (h1.push (kxs_mw "ValueError.__init__" e)).get? b = some o := fun b o z => Heap.get?_push_of_some _ (kk1 b o z)
    have hL2 : (h1.push (kxs_mw "ValueError.__init__" e)).Ns L m := hL.keeps kk2
    refine kxs_callWith (i := "ValueError.__init__") (x := e) hpl ?_
    rw [hx]
    refine evalArgs_plain ?_
    rw [← hx]
    refine hargs _ _ hL2 ⟨Heap.get?_push_at rfl rfl, ?_⟩
    show wpAny (model prog w) A (call (.ref h1.objs.size) ([] ++ us)) _ _ _
    rw [List.nil_append]
    exact call_mwV (kk2 _ _ hCh) (kk2 _ _ he) (Heap.get?_push_at rfl rfl) hz fun h' t1 k3 e3 => k h' t1 _ (fun b o hbe z => k3 b o hbe (kk2 b o z)) e3
end
end Vx
set_option Elab.async false
set_option linter.all false
set_option maxRecDepth 100000
set_option maxHeartbeats 2000000
/-! Vx1: such an __init__, run: one field, two fields; what the written part must say. -/
namespace Vx
open PySem PySem.Spec PySem.Calls PyProof.Rows PySem.W
/-- what the written part says of the class -/
structure XCls (K : Frag) (C : Addr) : Prop where
  cls : ∃ nm q N bs bm sn sub ab col dd k0 k1 k2 k3 k5, K.lookup C = some (excClassObj nm q C N bs bm true sn sub ab col dd k0 k1 k2 k3 k5 "ValueError.__new__") ∧ HandSPX.refsVE bm = true ∧ alongIn K "__init__" bm = some (some (.builtin "ValueError.__init__"))
  sa : findIn K (.ref C) "__setattr__" = some (some (.builtin "object.__setattr__"))
  me : mroIn K C (.ref C) = some true
  sV : subIn K (.ref C) (.type "ValueError") = some true
  exC : subIn K (.ref C) (.type "BaseException") = some true
  tyC : typeIn K (.ref C) = some (.type "type")
  kC : keepIn K (.ref C) = true
  op : nsIn K cStatics "thirdparty.any" = some none
def clsB (K : Frag) (C : Addr) : Bool := match K.lookup C with
  | some ⟨.type ty, _, .cls cd, sl⟩ => decide (ty = "type") && match cd.mro, sl.toList with
    | .ref C' :: bm, [_, _, _, _, some (.builtin n), _] => decide (C' = C) && (decide (n = "ValueError.__new__") && (!cd.hasDel && (cd.hasDict && (HandSPX.refsVE bm && decide (alongIn K "__init__" bm = some (some (.builtin "ValueError.__init__")))))))
    | _, _ => false
  | _ => false
def xclsB (K : Frag) (C : Addr) : Bool := clsB K C && (decide (findIn K (.ref C) "__setattr__" = some (some (.builtin "object.__setattr__"))) && (decide (mroIn K C (.ref C) = some true) && (decide (subIn K (.ref C) (.type "ValueError") = some true) &&
  (decide (subIn K (.ref C) (.type "BaseException") = some true) && (decide (typeIn K (.ref C) = some (.type "type")) && (keepIn K (.ref C) && decide (nsIn K cStatics "thirdparty.any" = some none)))))))
theorem ba2 {a b : Bool} (h : (a && b) = true) : a = true ∧ b = true := Bool.and_eq_true_iff.mp h
theorem clsB_ok {K : Frag} {C : Addr} (h : clsB K C = true) : ∃ nm q N bs bm sn sub ab col dd k0 k1 k2 k3 k5, K.lookup C = some (excClassObj nm q C N bs bm true sn sub ab col dd k0 k1 k2 k3 k5 "ValueError.__new__") ∧ HandSPX.refsVE bm = true ∧ alongIn K "__init__" bm = some (some (.builtin "ValueError.__init__")) := by
  unfold clsB at h
  split at h
  · rename_i ty dd cd sl ho
    obtain ⟨h0, h⟩ := ba2 h
    have h0 := of_decide_eq_true h0
    subst h0
    split at h
    · rename_i C' bm k0 k1 k2 k3 n k5 hm hs
      simp only [Bool.and_eq_true, decide_eq_true_eq] at h
      obtain ⟨-, h1, h2, h3, h4, h5, h6⟩ := h
      subst h1 h2
      obtain ⟨nm, bs, mro, ns, qn, hd, sn, sub, ab, col, del⟩ := cd
      dsimp only at hm h3 h4
      subst hm
      have hdel : del = false := by simpa using h3
      subst hdel h4
      have hsl : sl = #[k0, k1, k2, k3, some (.builtin "ValueError.__new__"), k5] := by
        obtain ⟨l⟩ := sl
        simp only at hs
        rw [hs]
      subst hsl
      exact ⟨nm, qn, ns, bs, bm, sn, sub, ab, col, dd, k0, k1, k2, k3, k5, ho, h5, h6⟩
    · cases h
  · cases h
theorem xclsB_ok {K : Frag} {C : Addr} (h : xclsB K C = true) : XCls K C := by
  obtain ⟨h1, h⟩ := ba2 h
  obtain ⟨h2, h⟩ := ba2 h
  obtain ⟨h3, h⟩ := ba2 h
  obtain ⟨h4, h⟩ := ba2 h
  obtain ⟨h5, h⟩ := ba2 h
  obtain ⟨h6, h⟩ := ba2 h
  obtain ⟨h7, h8⟩ := ba2 h
  exact ⟨clsB_ok h1, of_decide_eq_true h2, of_decide_eq_true h3, of_decide_eq_true h4, of_decide_eq_true h5, of_decide_eq_true h6, h7, of_decide_eq_true h8⟩
/-- .. of its __init__ at fI -/
structure XIni (K : Frag) (file : Str) (C fI : Addr) (name qual : Str) (params : Arguments) (body : List Stmt) (scope : Scope) : Prop where
  ex : ∃ (oc : Value) (od : Option Addr) (osl : Array (Option Value)) (kV doc pm : Value) (an : Option Addr) (cda : Addr) (ct : Value) (cc : Addr) (vs : Array Value) (tf : Tok) (ccl cl : Value) (cdd cld : Option Addr) (ccs csl : Array (Option Value)),
    K.lookup fI = some ⟨oc, od, .func (ksFn name qual params body scope .none kV doc pm an (.ref cda) ct cc), osl⟩ ∧ codeIn K (.ref cda) qual = true ∧ K.lookup cda = some ⟨ccl, cdd, .fields vs, ccs⟩ ∧ vs[2]? = some (.str file tf) ∧ K.lookup cc = some ⟨cl, cld, .cell (some (.ref C)), csl⟩
  ini : findIn K (.ref C) "__init__" = some (some (.ref fI))
  fn : typeIn K (.ref fI) = some (.type "function")
abbrev xb (e : Addr) (p : Str) (u : Value) : List (Str × Value) := [(("self" : Str), .ref e), (p, u)]
abbrev xb2 (e : Addr) (p : Str) (u : Value) (p' : Str) (u2 : Value) : List (Str × Value) := [(("self" : Str), .ref e), (p, u), (p', u2)]
/-- the state behind: the exception's own dict bears m -/
def XEnd (s : Shared) (e C : Addr) (m : Str → Option Value) (R : Result → Shared → Prop) : Prop := ∀ h' tk dx t1, (∀ b o, b ≠ e → s.heap.get? b = some o → h'.get? b = some o) → s.heap.objs.size ≤ dx → dx ≠ e →
  h'.get? e = some ({ cls := .ref C, dict := some dx, data := .fields #[.ref t1, .none, .none, .none, .bool false, .none] } : Obj) → h'.Ns1 dx m → R (.ok (.ret .none)) { s with heap := h', toks := tk }
section
variable {prog : Program} {w : World} {A : Around} {R : Result → Shared → Prop} {K : Frag} {mg : Str → Option Value} {s : Shared} {C fI e t0 : Addr} {file name qual : Str} {params : Arguments} {scope : Scope} {u u2 : Value} {p p' pp : Str} {a0 a1 : Arg} {q0 q1 q2 q3 q4 q5 q6 q7 q8 q9 r3 r6 r7 r8 r9 : Pos}
theorem run_init1 {ar : Args} (T : XCls K C) (hroom : A.depth < recursionLimit) (X : K.In s.heap) (G : s.heap.Ns mainGlobals mg) (hmg : mg "super" = none) (Bt : ∃ mb, s.heap.Ns builtinsNs mb ∧ ∀ x : Str, x ≠ "__name__" → mb x = bootBuiltins x) (lim : s.heap.NoLimit)
    (F : XIni K file C fI name qual params [.Expr (.Call (.Attribute (.Call (.Name "super" q0) [] [] q1) "__init__" q2) [.Name p q3] [] q4) q5, .Assign [.Attribute (.Name "self" q6) p q7] (.Name p q8) q9] scope)
    (he : s.heap.get? e = some (HandSPX.excO C t0)) (hfile : ((prog.main.file : Str) == file) = true) (htop : (prog.main.scope.names.lookup ("super" : Str)).isSome = false) (hboot : bootBuiltins "super" = some (.type "super"))
    (hpar : (params.posonlyargs ++ params.args).head? = some a0) (ha0 : a0.arg = "self") (heK : ∀ o, K.lookup e = some o → False) (hself : (p == ("self" : Str)) = false) (hdb : (p == ("__debug__" : Str)) = false)
    (hbind : ∀ (kV doc pm : Value) (an : Option Addr) (cdv ct : Value) (cc : Addr) (body : List Stmt), bindArgs (ksFn name qual params body scope .none kV doc pm an cdv ct cc) ar = pure (xb e p u))
    (hks : scope.names.lookup ("super" : Str) = some .globalImplicit) (hkc : scope.names.lookup ("__class__" : Str) = some .free) (hka : scope.names.lookup ("self" : Str) = some .local) (hkp : scope.names.lookup p = some .local) (hk : scope.kind = .function)
    (hcell : ∀ x ∈ scope.names, x.2 ≠ .cell) (hco : scope.isCoroutine = false) (hgen : scope.isGenerator = false) (hno : findIn K (.ref C) p = some none)
    (hev : ∀ env : Env, ∃ pl, eval (.Call (.Attribute (.Call (.Name "super" q0) [] [] q1) "__init__" q2) [.Name p q3] [] q4) env = (do
      let ov ← attributeBase (.Call (.Name "super" q0) [] [] q1) "__init__" env (eval (.Call (.Name "super" q0) [] [] q1) env)
      standAt q2.atName
      let (f, first) ← holding [ov] (getMethod ov "__init__" pl)
      callWith q4 f first (backTo q4 (starEach [.Name p q3] env)) []))
    (k : XEnd s e C (fun y => if y = p then some u else none) R) : codeAny (model prog w) A (.call (.ref fI) ar) R s := by
  obtain ⟨oc, od, osl, kV, doc, pm, an, cda, ct, cc, vs, tf, ccl, cl, cdd, cld, ccs, csl, hf, hcd, hcode, hvs, hcl⟩ := F.ex
  obtain ⟨nm, q, N, bs, bm, sn, sub, ab, col, dd, k0, k1, k2, k3, k5, hC, hbm, hal⟩ := T.cls
  obtain ⟨mb, hb, hbb⟩ := Bt
  have heL : e ≠ s.heap.objs.size := Nat.ne_of_lt (Heap.lt_size he)
  refine ks_codeAny_call_defAt (fd := ksFn name qual params _ scope .none kV doc pm an (.ref cda) ct cc) (binds := xb e p u) hroom (X _ _ hf) rfl lim (codeRec_of X hcd) rfl (.of_eq (hbind kV doc pm an (.ref cda) ct cc _)) hcell (fun x hx => ?_) (fun h0 hns kk => ?_) hco hgen hk
  · rcases List.mem_cons.mp hx with rfl | hx
    · exact hka
    · rcases List.mem_cons.mp hx with rfl | hx
      · exact hkp
      · cases hx
  have hm0 : (fun x => List.lookup x (xb e p u).reverse) a0.arg = some (.ref e) := by
    rw [ha0]
    have : (("self" : Str) == p) = false := by
      have := hself
      rw [BEq.comm] at this
      exact this
    simp [List.lookup, this]
  have hmp : (fun x => List.lookup x (xb e p u).reverse) p = some u := by simp [List.lookup]
  have X0 : K.In h0 := X.keeps kk
  have ev : ∀ {A : Around} {E : Value → Shared → Prop} {L : Addr} {m : Str → Option Value} {s' : Shared} {Q : Value → Shared → Prop} {po : Pos}, s'.heap.Ns L m → m p = some u → Q u s' → wpAny (model prog w) A (eval (.Name p po) (ksEnv qual scope L fI (.ref cda) cc)) Q E s' := fun hL hm q => wpAny_Name (wpAny_loadName_local hk hkp hL hm q) hdb
  show _root_.PySem.wpAt (model prog w) (A.deeper (ksEnv qual scope s.heap.objs.size fI (.ref cda) cc)) (.func _ (ksEnv qual scope s.heap.objs.size fI (.ref cda) cc)) (execs _ (ksEnv qual scope s.heap.objs.size fI (.ref cda) cc)) _ _ _
  obtain ⟨pl, hpl'⟩ := hev (ksEnv qual scope s.heap.objs.size fI (.ref cda) cc)
  refine ks_wpAt_execs_cons ?_
  refine super_stmt (us := [u]) X0 (G.keeps kk) hmg ⟨mb, hb.keeps kk, hbb⟩ hns hf hpar hm0 (kk _ _ he) hcode hvs hfile hcl hC T.me T.sV hal T.op hks hkc (by rw [ha0]; exact hka) hk htop hboot ?_ rfl ⟨_, _, rfl⟩ (by rw [sizeLine_eq]; show _ + 1 ≤ 16777216; simp) heL hpl' rfl (by unfold interactive; rw [show (ksEnv qual scope s.heap.objs.size fI (.ref cda) cc).scope.kind = .function from hk]; rfl) ?_
  · intro s' Q hL q
    exact spliced_cons (ev hL hmp (spliced_nil q))
  · intro h1 t1 tk kk1 e1
    have hns1 : h1.Ns s.heap.objs.size (fun x => List.lookup x (xb e p u).reverse) := by
      obtain ⟨oL, es, ep, hL, r⟩ := hns
      exact ⟨oL, es, ep, kk1 _ _ (Ne.symm heL) hL, r⟩
    have X1 : K.In h1 := fun b o z => kk1 b o (fun q => heK o (by rw [← q]; exact z)) (X0 b o z)
    refine ks_wpAt_execs_cons (ks_wpAt_Assign_Attr (wpAt_of_wpAny (ev hns1 hmp ?_)) rfl)
    have hms : (fun x => List.lookup x (xb e p u).reverse) ("self" : Str) = some (.ref e) := by rw [← ha0]; exact hm0
    refine wpAny_Name (wpAny_loadName_local hk hka hns1 hms ?_) (by decide)
    have hcl2 : clsIn K C = some { name := nm, bases := bs, mro := .ref C :: bm, ns := N, qualname := q, hasDict := true, slotNames := sn, subclasses := sub, abstract := ab, collection := col, hasDel := false } := by
      unfold clsIn
      rw [hC] <;> rfl
    refine set_plain X1 (C := C) (ox := HandSPX.excO C t1) (od := none) ⟨e1, rfl, rfl, trivial⟩ T.sa ?_
    refine HandSPX.exc_osa X1 e1 hcl2 (show HandSPX.refsVE (.ref C :: bm) = true from hbm) rfl hno fun h2 tk2 dx kk2 hdx hne e2 hn2 => ?_
    refine wpAt_of_wpAny (wpAny_execs_nil ?_)
    have hsz : s.heap.objs.size ≤ h1.objs.size := by
      obtain ⟨oL, es, ep, hL, r⟩ := hns1
      exact Nat.le_of_lt (Heap.lt_size hL)
    exact k h2 tk2 dx t1 (fun b o hb z => kk2 b o hb (kk1 b o hb (kk b o z))) (Nat.le_trans hsz hdx) hne e2 hn2
theorem run_init2 {ar : Args} (T : XCls K C) (hroom : A.depth < recursionLimit) (X : K.In s.heap) (G : s.heap.Ns mainGlobals mg) (hmg : mg "super" = none) (Bt : ∃ mb, s.heap.Ns builtinsNs mb ∧ ∀ x : Str, x ≠ "__name__" → mb x = bootBuiltins x) (lim : s.heap.NoLimit)
    (F : XIni K file C fI name qual params [.Expr (.Call (.Attribute (.Call (.Name "super" q0) [] [] q1) "__init__" q2) [.Name p q3, .Name p' r3] [] q4) q5, .Assign [.Attribute (.Name "self" q6) p q7] (.Name p q8) q9, .Assign [.Attribute (.Name "self" r6) p' r7] (.Name p' r8) r9] scope)
    (he : s.heap.get? e = some (HandSPX.excO C t0)) (hfile : ((prog.main.file : Str) == file) = true) (htop : (prog.main.scope.names.lookup ("super" : Str)).isSome = false) (hboot : bootBuiltins "super" = some (.type "super"))
    (hpar : (params.posonlyargs ++ params.args).head? = some a0) (ha0 : a0.arg = "self") (heK : ∀ o, K.lookup e = some o → False) (hself : (p == ("self" : Str)) = false) (hdb : (p == ("__debug__" : Str)) = false) (hself2 : (p' == ("self" : Str)) = false) (hdb2 : (p' == ("__debug__" : Str)) = false) (hpp : (p == p') = false)
    (hbind : ∀ (kV doc pm : Value) (an : Option Addr) (cdv ct : Value) (cc : Addr) (body : List Stmt), bindArgs (ksFn name qual params body scope .none kV doc pm an cdv ct cc) ar = pure (xb2 e p u p' u2))
    (hks : scope.names.lookup ("super" : Str) = some .globalImplicit) (hkc : scope.names.lookup ("__class__" : Str) = some .free) (hka : scope.names.lookup ("self" : Str) = some .local) (hkp : scope.names.lookup p = some .local) (hkp2 : scope.names.lookup p' = some .local) (hk : scope.kind = .function)
    (hcell : ∀ x ∈ scope.names, x.2 ≠ .cell) (hco : scope.isCoroutine = false) (hgen : scope.isGenerator = false) (hno : findIn K (.ref C) p = some none) (hno2 : findIn K (.ref C) p' = some none)
    (hev : ∀ env : Env, ∃ pl, eval (.Call (.Attribute (.Call (.Name "super" q0) [] [] q1) "__init__" q2) [.Name p q3, .Name p' r3] [] q4) env = (do
      let ov ← attributeBase (.Call (.Name "super" q0) [] [] q1) "__init__" env (eval (.Call (.Name "super" q0) [] [] q1) env)
      standAt q2.atName
      let (f, first) ← holding [ov] (getMethod ov "__init__" pl)
      callWith q4 f first (backTo q4 (starEach [.Name p q3, .Name p' r3] env)) []))
    (k : XEnd s e C (fun y => if y = p' then some u2 else if y = p then some u else none) R) : codeAny (model prog w) A (.call (.ref fI) ar) R s := by
  obtain ⟨oc, od, osl, kV, doc, pm, an, cda, ct, cc, vs, tf, ccl, cl, cdd, cld, ccs, csl, hf, hcd, hcode, hvs, hcl⟩ := F.ex
  obtain ⟨nm, q, N, bs, bm, sn, sub, ab, col, dd, k0, k1, k2, k3, k5, hC, hbm, hal⟩ := T.cls
  obtain ⟨mb, hb, hbb⟩ := Bt
  have heL : e ≠ s.heap.objs.size := Nat.ne_of_lt (Heap.lt_size he)
  refine ks_codeAny_call_defAt (fd := ksFn name qual params _ scope .none kV doc pm an (.ref cda) ct cc) (binds := xb2 e p u p' u2) hroom (X _ _ hf) rfl lim (codeRec_of X hcd) rfl (.of_eq (hbind kV doc pm an (.ref cda) ct cc _)) hcell (fun x hx => ?_) (fun h0 hns kk => ?_) hco hgen hk
  · rcases List.mem_cons.mp hx with rfl | hx
    · exact hka
    · rcases List.mem_cons.mp hx with rfl | hx
      · exact hkp
      · rcases List.mem_cons.mp hx with rfl | hx
        · exact hkp2
        · cases hx
  have hm0 : (fun x => List.lookup x (xb2 e p u p' u2).reverse) a0.arg = some (.ref e) := by
    rw [ha0]
    have : (("self" : Str) == p) = false := by
      have := hself
      rw [BEq.comm] at this
      exact this
    have t2 : (("self" : Str) == p') = false := by
      have := hself2
      rw [BEq.comm] at this
      exact this
    simp [List.lookup, this, t2]
  have hmp : (fun x => List.lookup x (xb2 e p u p' u2).reverse) p = some u := by simp [List.lookup, hpp]
  have hmp2 : (fun x => List.lookup x (xb2 e p u p' u2).reverse) p' = some u2 := by simp [List.lookup]
  have X0 : K.In h0 := X.keeps kk
  have ev : ∀ {A : Around} {E : Value → Shared → Prop} {L : Addr} {m : Str → Option Value} {s' : Shared} {Q : Value → Shared → Prop} {po : Pos}, s'.heap.Ns L m → m p = some u → Q u s' → wpAny (model prog w) A (eval (.Name p po) (ksEnv qual scope L fI (.ref cda) cc)) Q E s' := fun hL hm q => wpAny_Name (wpAny_loadName_local hk hkp hL hm q) hdb
  have ev2 : ∀ {A : Around} {E : Value → Shared → Prop} {L : Addr} {m : Str → Option Value} {s' : Shared} {Q : Value → Shared → Prop} {po : Pos}, s'.heap.Ns L m → m p' = some u2 → Q u2 s' → wpAny (model prog w) A (eval (.Name p' po) (ksEnv qual scope L fI (.ref cda) cc)) Q E s' := fun hL hm q => wpAny_Name (wpAny_loadName_local hk hkp2 hL hm q) hdb2
  show _root_.PySem.wpAt (model prog w) (A.deeper (ksEnv qual scope s.heap.objs.size fI (.ref cda) cc)) (.func _ (ksEnv qual scope s.heap.objs.size fI (.ref cda) cc)) (execs _ (ksEnv qual scope s.heap.objs.size fI (.ref cda) cc)) _ _ _
  obtain ⟨pl, hpl'⟩ := hev (ksEnv qual scope s.heap.objs.size fI (.ref cda) cc)
  refine ks_wpAt_execs_cons ?_
  refine super_stmt (us := [u, u2]) X0 (G.keeps kk) hmg ⟨mb, hb.keeps kk, hbb⟩ hns hf hpar hm0 (kk _ _ he) hcode hvs hfile hcl hC T.me T.sV hal T.op hks hkc (by rw [ha0]; exact hka) hk htop hboot ?_ rfl ⟨_, _, rfl⟩ (by rw [sizeLine_eq]; show _ + 1 ≤ 16777216; simp) heL hpl' rfl (by unfold interactive; rw [show (ksEnv qual scope s.heap.objs.size fI (.ref cda) cc).scope.kind = .function from hk]; rfl) ?_
  · intro s' Q hL q
    exact spliced_cons (ev hL hmp (spliced_cons (ev2 hL hmp2 (spliced_nil q))))
  · intro h1 t1 tk kk1 e1
    have hns1 : h1.Ns s.heap.objs.size (fun x => List.lookup x (xb2 e p u p' u2).reverse) := by
      obtain ⟨oL, es, ep, hL, r⟩ := hns
      exact ⟨oL, es, ep, kk1 _ _ (Ne.symm heL) hL, r⟩
    have X1 : K.In h1 := fun b o z => kk1 b o (fun q => heK o (by rw [← q]; exact z)) (X0 b o z)
    refine ks_wpAt_execs_cons (ks_wpAt_Assign_Attr (wpAt_of_wpAny (ev hns1 hmp ?_)) rfl)
    have hms : (fun x => List.lookup x (xb2 e p u p' u2).reverse) ("self" : Str) = some (.ref e) := by rw [← ha0]; exact hm0
    refine wpAny_Name (wpAny_loadName_local hk hka hns1 hms ?_) (by decide)
    have hcl2 : clsIn K C = some { name := nm, bases := bs, mro := .ref C :: bm, ns := N, qualname := q, hasDict := true, slotNames := sn, subclasses := sub, abstract := ab, collection := col, hasDel := false } := by
      unfold clsIn
      rw [hC] <;> rfl
    refine set_plain X1 (C := C) (ox := HandSPX.excO C t1) (od := none) ⟨e1, rfl, rfl, trivial⟩ T.sa ?_
    refine HandSPX.exc_osa X1 e1 hcl2 (show HandSPX.refsVE (.ref C :: bm) = true from hbm) rfl hno fun h2 tk2 dx kk2 hdx hne e2 hn2 => ?_
    have X2 : K.In h2 := fun b o z => kk2 b o (fun q => heK o (by rw [← q]; exact z)) (X1 b o z)
    have hL1 : ∃ oL, h1.get? s.heap.objs.size = some oL := by
      obtain ⟨oL, es, ep, hL, r⟩ := hns1
      exact ⟨oL, hL⟩
    have hlt : s.heap.objs.size < h1.objs.size := by
      obtain ⟨oL, hL⟩ := hL1
      exact Heap.lt_size hL
    have hns2 : h2.Ns s.heap.objs.size (fun x => List.lookup x (xb2 e p u p' u2).reverse) := by
      obtain ⟨oL, es, ep, hL, r⟩ := hns1
      exact ⟨oL, es, ep, kk2 _ _ (Ne.symm heL) hL, r⟩
    refine ks_wpAt_execs_cons (ks_wpAt_Assign_Attr (wpAt_of_wpAny (ev2 hns2 hmp2 ?_)) rfl)
    refine wpAny_Name (wpAny_loadName_local hk hka hns2 hms ?_) (by decide)
    have W2 : Within (fun y => if y = p then some u else none) [p] := fun y hy => by
      by_cases z : y = p
      · rw [z]; exact List.mem_cons_self
      · dsimp only at hy
        rw [if_neg z] at hy
        exact absurd rfl hy
    obtain ⟨oD, _, _, hoD, _, _⟩ := hn2.count W2
    refine set_plain X2 (C := C) (ox := { cls := .ref C, dict := some dx, data := .fields #[.ref t1, .none, .none, .none, .bool false, .none] }) (od := some oD) ⟨e2, rfl, rfl, hoD⟩ T.sa ?_
    refine PySem.OEX.osa_old X2 e2 hn2 W2 (by show 0 + 1 ≤ 1000; exact Nat.le_of_ble_eq_true rfl) hcl2 (show HandSPX.refsVE (.ref C :: bm) = true from hbm) rfl hno2 fun h3 tk3 kk3 hn3 => ?_
    refine wpAt_of_wpAny (wpAny_execs_nil ?_)
    have hdx' : h1.objs.size ≤ dx := hdx
    exact k h3 tk3 dx t1 (fun b o hb z => kk3 b o (Nat.ne_of_lt (Nat.lt_of_lt_of_le (Heap.lt_size z) (Nat.le_trans (Nat.le_of_lt hlt) hdx))) (kk2 b o hb (kk1 b o hb (kk b o z)))) (Nat.le_trans (Nat.le_of_lt hlt) hdx) hne (kk3 e _ (Ne.symm hne) e2) hn3
end
end Vx
set_option Elab.async false
set_option linter.all false
set_option maxRecDepth 100000
set_option maxHeartbeats 2000000
/-! Vx2: X(e), X(e, f) of such a class: made, raised. -/
namespace Vx
open PySem PySem.Spec PySem.Calls PyProof.Rows L2 Vl
/-- what the world below must be -/
structure Below (K : PySem.W.Frag) (mg : Str → Option Value) (A : Around) (s : Shared) : Prop where
  dp : A.depth < recursionLimit
  kin : K.In s.heap
  glob : s.heap.Ns mainGlobals mg
  blt : ∃ mb, s.heap.Ns builtinsNs mb ∧ ∀ x : Str, x ≠ "__name__" → mb x = bootBuiltins x
  lim : s.heap.NoLimit
/-- the class x, one field / two fields -/
structure ECal1 (P : Program) (w : World) (K : PySem.W.Frag) (mg : Str → Option Value) (x f : Str) : Prop where
  ex : ∃ C fI, mg x = some (.ref C) ∧ XCls K C ∧ PySem.W.findIn K (.ref C) "__init__" = some (some (.ref fI)) ∧ PySem.W.typeIn K (.ref fI) = some (.type "function") ∧ ∀ (A : Around) (s : Shared) (e t0 : Addr) (u : Value) (ar : Args) (R : Result → Shared → Prop), Below K mg A s → (ar = ⟨[.ref e, u], []⟩ ∨ ar = ⟨[.ref e], [(f, u)]⟩) →
    s.heap.get? e = some (HandSPX.excO C t0) → (∀ o, K.lookup e = some o → False) → XEnd s e C (fun y => if y = f then some u else none) R → codeAny (model P w) A (.call (.ref fI) ar) R s
structure ECal2 (P : Program) (w : World) (K : PySem.W.Frag) (mg : Str → Option Value) (x f f' : Str) : Prop where
  ne : f ≠ f'
  ex : ∃ C fI, mg x = some (.ref C) ∧ XCls K C ∧ PySem.W.findIn K (.ref C) "__init__" = some (some (.ref fI)) ∧ PySem.W.typeIn K (.ref fI) = some (.type "function") ∧ ∀ (A : Around) (s : Shared) (e t0 : Addr) (u u2 : Value) (ar : Args) (R : Result → Shared → Prop), Below K mg A s → (ar = ⟨[.ref e, u, u2], []⟩ ∨ ar = ⟨[.ref e], [(f, u), (f', u2)]⟩ ∨ ar = ⟨[.ref e], [(f', u2), (f, u)]⟩) →
    s.heap.get? e = some (HandSPX.excO C t0) → (∀ o, K.lookup e = some o → False) → XEnd s e C (fun y => if y = f' then some u2 else if y = f then some u else none) R → codeAny (model P w) A (.call (.ref fI) ar) R s
section
variable {X : Cx} {pins : List (Addr × Obj)} {σ : L2.St} {H1 : Hp} {Q : XK} {C e : Addr} {fs : List (Str × V)} {m : Str → Option Value} {us : List Value} {hp : Heap} {g : Array GenState} {dr : Drawn} {tk : Nat} {os : OsState}
/-- the end of making: what stands behind it -/
theorem made_end (T : XCls X.K C) (I1 : Inv X pins σ H1 ⟨hp, g, dr, tk, os⟩) (hrel : ∀ f, RelO (fs.lookup f) (m f)) (q : ∀ d, H1 d = none → Q (.ref C) (some d) (upd H1 d (.xd fs))) {h' : Heap} {tk' : Nat} {dx t1 : Addr}
    (k : ∀ b o, b ≠ hp.objs.size + 1 → ((hp.push (PySem.W.kdv_tup us)).push (PySem.HandSPX.excO C hp.objs.size)).get? b = some o → h'.get? b = some o) (hdx : ((hp.push (PySem.W.kdv_tup us)).push (PySem.HandSPX.excO C hp.objs.size)).objs.size ≤ dx)
    (hne : dx ≠ hp.objs.size + 1) (he : h'.get? (hp.objs.size + 1) = some ({ cls := .ref C, dict := some dx, data := .fields #[.ref t1, .none, .none, .none, .bool false, .none] } : Obj)) (hn : h'.Ns1 dx m) :
    L2N.MkP X pins σ Q (.ref (hp.objs.size + 1)) ⟨h', g, dr, tk', os⟩ := by
  obtain ⟨G, g1, g2⟩ := restrict h' fun b => decide (b ≠ hp.objs.size + 1)
  have gk : ∀ b, b ≠ hp.objs.size + 1 → G.get? b = h'.get? b := fun b hb => g1 b (decide_eq_true hb)
  have ge : G.get? (hp.objs.size + 1) = none := g2 _ (by simp)
  have hsz : hp.objs.size ≤ dx := by
    rw [Heap.size_push, Heap.size_push] at hdx
    omega
  have kk : ∀ b o, hp.get? b = some o → G.get? b = some o := fun b o z => by
    have hb : b ≠ hp.objs.size + 1 := Nat.ne_of_lt (Nat.lt_succ_of_lt (Heap.lt_size z))
    rw [gk b hb]
    exact k b o hb (Heap.get?_push_of_some _ (Heap.get?_push_of_some _ z))
  have nd : H1 dx = none := I1.hok.fresh hsz
  have ok : ObjOk X.prog X.w (upd H1 dx (.xd fs)) G dx (.xd fs) := ⟨m, hn.at fun o y => (gk dx hne).trans y, hrel⟩
  have J : Inv X pins σ (upd H1 dx (.xd fs)) ⟨G, g, dr, tk', os⟩ := I1.laid (t' := tk') (a := dx) (o := .xd fs) (h' := G) kk hsz ok
  refine ⟨hp.objs.size + 1, _, _, ⟨G, g, dr, tk', os⟩, _, .ref C, some dx, rfl, J, fun b o z => ?_, ge, he, ⟨rfl, rfl, fun vs hv => ?_⟩, rfl, rfl, ?_, rfl, J.bare, raises_own T.exC T.tyC, q dx nd⟩
  · by_cases hb : b = hp.objs.size + 1
    · rw [hb, ge] at z
      cases z
    · exact (gk b hb).symm.trans z
  · cases hv
    rfl
  · rw [upd_ne (Ne.symm hne)]
    exact I1.hok.fresh (Nat.le_succ _)
end
section
variable {X : Cx} {x f f' : Str} {e e2 : Expr} {ta : TA} {p pos : Pos} {k : Nat}
theorem below_of {pins : List (Addr × Obj)} {σ : L2.St} {H : Hp} {s : Shared} {A : Around} (I : Inv X pins σ H s) (hd : A.depth < recursionLimit) : Below X.K X.mg A s := by
  obtain ⟨mb, h1, h2⟩ := I.mod.blt
  exact ⟨hd, I.kIn, I.mod.glob.keeps I.bk, ⟨mb, h1.keeps I.bk, h2⟩, I.mod.nolimit.keeps I.bk⟩
theorem pmk_x1 (cc : ECal1 X.prog X.w X.K X.mg x f) (hr : Room (k + 1) X.A) (hg : Gl X x) (ha : PA X [e] ta) (hdb : (x == ("__debug__" : Str)) = false := by decide) (he : starEach (e :: []) X.env = (false, eval e X.env) :: starEach [] X.env := by rfl)
    (hpl : (backTo pos (starEach [] X.env)).any (·.1) = false := by rfl) : L2N.PMk X (.Call (.Name x p) [e] [] pos) (fun σ H Q => ta σ H fun vs H1 => ∃ v, vs = [v] ∧ ∃ C, X.mg x = some (.ref C) ∧ ∀ d, H1 d = none → Q (.ref C) (some d) (upd H1 d (.xd [(f, v)]))) := by
  intro pins s σ H Q I h
  obtain ⟨C, fI, hm, T, iC, tI, run⟩ := cc.ex
  obtain ⟨nm, q, N, bs, bm, sn, sub, ab, col, dd, k0, k1, k2, k3, k5, hC, hbm, hal⟩ := T.cls
  refine wpAny_Call_Name_kw (ld_glob I hg hm ?_ hdb)
  refine PySem.W.callWith_K (h₀ := X.base) I.ok.mod.kin T.kC (thn (ha.run pos pins s σ H _ I h) fun us s1 ⟨vs, H1, I1, r1, v, ev, C', hm', q1⟩ => ⟨I1.kIn, ?_⟩) he hpl
  rw [hm] at hm'
  cases hm'
  subst ev
  obtain ⟨u, rfl, ru⟩ := vals1 r1
  show wpAny _ _ (call (.ref C) [u]) _ _ _
  obtain ⟨hp, g, dr, tk, os⟩ := s1
  have hsz : hp.objs.size ≤ hp.objs.size + 1 := Nat.le_succ _
  have hget : ((hp.push (PySem.W.kdv_tup [u])).push (PySem.HandSPX.excO C hp.objs.size)).get? (hp.objs.size + 1) = some (PySem.HandSPX.excO C hp.objs.size) := by heap_get
  have kk : ∀ b o, hp.get? b = some o → ((hp.push (PySem.W.kdv_tup [u])).push (PySem.HandSPX.excO C hp.objs.size)).get? b = some o := fun b o e => Heap.get?_push_of_some _ (Heap.get?_push_of_some _ e)
  have I2 : Inv X pins σ (upd H1 (hp.objs.size + 1) (exo (hp.objs.size + 1) C none)) ⟨(hp.push (PySem.W.kdv_tup [u])).push (PySem.HandSPX.excO C hp.objs.size), g, dr, tk, os⟩ :=
    I1.laid (t' := tk) (a := hp.objs.size + 1) (o := exo (hp.objs.size + 1) C none) (h' := (hp.push (PySem.W.kdv_tup [u])).push (PySem.HandSPX.excO C hp.objs.size)) kk hsz (exo_ok hget)
  refine wpAny_call (PySem.HandSPX.call_own F.excBase_ValueError (fun Y => PySem.HandSPX.refsVE_contains Y bm hbm) (I1.kIn _ _ hC) (PySem.W.looks_findIn I1.kIn iC) (fun self => PySem.W.bind_fn I1.kIn self tI) (by rw [sizeLine_eq]; show _ + 1 ≤ 16777216; simp)
    (run _ _ _ _ u _ _ (below_of I2 (hr.make C [u] []).depth) (.inl rfl) hget (fun o z => ?_) fun h' tk' dx t1 k1 hdx hne he' hn' => ?_))
  · have z2 := I1.kIn _ _ z
    exact absurd (Heap.lt_size z2) (by show ¬ hp.objs.size + 1 < hp.objs.size; omega)
  · refine ⟨rfl, ?_⟩
    exact made_end T I1 (m := fun y => if y = f then some u else none) (fs := [(f, v)]) (relO_put (fs := []) ru fun g => True.intro) q1 k1 hdx hne he' hn'
theorem pmk_x2 (cc : ECal2 X.prog X.w X.K X.mg x f f') (hr : Room (k + 1) X.A) (hg : Gl X x) (ha : PA X [e, e2] ta) (hdb : (x == ("__debug__" : Str)) = false := by decide) (he : starEach (e :: [e2]) X.env = (false, eval e X.env) :: starEach [e2] X.env := by rfl)
    (hpl : (backTo pos (starEach [e2] X.env)).any (·.1) = false := by rfl) : L2N.PMk X (.Call (.Name x p) [e, e2] [] pos) (fun σ H Q => ta σ H fun vs H1 => ∃ v v2, vs = [v, v2] ∧ ∃ C, X.mg x = some (.ref C) ∧ ∀ d, H1 d = none → Q (.ref C) (some d) (upd H1 d (.xd [(f', v2), (f, v)]))) := by
  intro pins s σ H Q I h
  obtain ⟨C, fI, hm, T, iC, tI, run⟩ := cc.ex
  obtain ⟨nm, q, N, bs, bm, sn, sub, ab, col, dd, k0, k1, k2, k3, k5, hC, hbm, hal⟩ := T.cls
  refine wpAny_Call_Name_kw (ld_glob I hg hm ?_ hdb)
  refine PySem.W.callWith_K (h₀ := X.base) I.ok.mod.kin T.kC (thn (ha.run pos pins s σ H _ I h) fun us s1 ⟨vs, H1, I1, r1, v, v2, ev, C', hm', q1⟩ => ⟨I1.kIn, ?_⟩) he hpl
  rw [hm] at hm'
  cases hm'
  subst ev
  cases r1 with
  | @cons _ u _ ur ru rr =>
  obtain ⟨u2, rfl, ru2⟩ := vals1 rr
  show wpAny _ _ (call (.ref C) [u, u2]) _ _ _
  obtain ⟨hp, g, dr, tk, os⟩ := s1
  have hsz : hp.objs.size ≤ hp.objs.size + 1 := Nat.le_succ _
  have hget : ((hp.push (PySem.W.kdv_tup [u, u2])).push (PySem.HandSPX.excO C hp.objs.size)).get? (hp.objs.size + 1) = some (PySem.HandSPX.excO C hp.objs.size) := by heap_get
  have kk : ∀ b o, hp.get? b = some o → ((hp.push (PySem.W.kdv_tup [u, u2])).push (PySem.HandSPX.excO C hp.objs.size)).get? b = some o := fun b o e => Heap.get?_push_of_some _ (Heap.get?_push_of_some _ e)
  have I2 : Inv X pins σ (upd H1 (hp.objs.size + 1) (exo (hp.objs.size + 1) C none)) ⟨(hp.push (PySem.W.kdv_tup [u, u2])).push (PySem.HandSPX.excO C hp.objs.size), g, dr, tk, os⟩ :=
    I1.laid (t' := tk) (a := hp.objs.size + 1) (o := exo (hp.objs.size + 1) C none) (h' := (hp.push (PySem.W.kdv_tup [u, u2])).push (PySem.HandSPX.excO C hp.objs.size)) kk hsz (exo_ok hget)
  refine wpAny_call (PySem.HandSPX.call_own F.excBase_ValueError (fun Y => PySem.HandSPX.refsVE_contains Y bm hbm) (I1.kIn _ _ hC) (PySem.W.looks_findIn I1.kIn iC) (fun self => PySem.W.bind_fn I1.kIn self tI) (by rw [sizeLine_eq]; show _ + 1 ≤ 16777216; simp)
    (run _ _ _ _ u u2 _ _ (below_of I2 (hr.make C [u, u2] []).depth) (.inl rfl) hget (fun o z => ?_) fun h' tk' dx t1 k1 hdx hne he' hn' => ?_))
  · have z2 := I1.kIn _ _ z
    exact absurd (Heap.lt_size z2) (by show ¬ hp.objs.size + 1 < hp.objs.size; omega)
  · refine ⟨rfl, ?_⟩
    refine made_end T I1 (m := fun y => if y = f' then some u2 else if y = f then some u else none) (fs := [(f', v2), (f, v)]) (relO_put (fs := [(f, v)]) ru2 (relO_put (fs := []) ru fun g => True.intro)) q1 k1 hdx hne he' hn'
end
end Vx
set_option Elab.async false
set_option linter.all false
set_option maxRecDepth 100000
set_option maxHeartbeats 4000000
/-! Vx3: try with several clauses, named or not. -/
namespace Vx
open PySem PySem.Spec PySem.Calls PyProof.Rows L2
abbrev goneAt (D : Ends) (i : Nat) : Ends := { nx := fun σ' H' => D.nx (σ'.set i none) H', rt := D.rt, bk := fun σ' H' => D.bk (σ'.set i none) H', ct := fun σ' H' => D.ct (σ'.set i none) H' }
/-- what the clauses wish, one behind the other -/
def wAny (K : PySem.W.Frag) (Wout : WX) (D : Ends) : List (Value × Option Nat × (Addr → Value → Option Addr → TS)) → WX
  | [] => Wout
  | (c, o, ts) :: r => fun cls d σ H => ∃ b, PySem.W.exmOne K cls c = some b ∧ (b = true → ∀ a, H a = none → match o with
      | none => ts a cls d D σ H
      | some i => ts a cls d (goneAt D i) (σ.set i (some (.ref a))) H) ∧ (b = false → wAny K Wout D r cls d σ H)
inductive AnyOk (X : Cx) : List ExceptHandler → List (Value × Option Nat × (Addr → Value → Option Addr → TS)) → Prop
  | nil : AnyOk X [] []
  | only {x : Str} {c : Value} {ts : Addr → Value → Option Addr → TS} {b₀ : Stmt} {suite : List Stmt} {np pos' : Pos} {hds : List ExceptHandler} {l} (hc : Names X x c)
      (hsu : ∀ (a : Addr) (oe : Obj) (cls : Value) (d : Option Addr) (pn : List (Addr × Obj)), L2N.Zn cls d oe → (∃ vs, oe.data = .fields vs) → PSs (X.suite a ((a, oe) :: pn)) (b₀ :: suite) (ts a cls d)) (r : AnyOk X hds l) :
      AnyOk X (.ExceptHandler (some (.Name x np)) none (b₀ :: suite) pos' :: hds) ((c, none, ts) :: l)
  | named {x n : Str} {i : Nat} {c : Value} {ts : Addr → Value → Option Addr → TS} {b₀ : Stmt} {suite : List Stmt} {np pos' : Pos} {hds : List ExceptHandler} {l} (hc : Names X x c) (hN : X.N.Nodup) (hi : X.N[i]? = some n) (hln : X.env.kindOf n = some .local)
      (hsu : ∀ (a : Addr) (oe : Obj) (cls : Value) (d : Option Addr) (pn : List (Addr × Obj)), L2N.Zn cls d oe → (∃ vs, oe.data = .fields vs) → PSs (X.suite a ((a, oe) :: pn)) (b₀ :: suite) (ts a cls d)) (r : AnyOk X hds l) :
      AnyOk X (.ExceptHandler (some (.Name x np)) (some n) (b₀ :: suite) pos' :: hds) ((c, some i, ts) :: l)
section
variable {X : Cx} {body : List Stmt} {h₀ : ExceptHandler} {hds : List ExceptHandler} {l : List (Value × Option Nat × (Addr → Value → Option Addr → TS))} {pos : Pos} {tb : WX → TS} {Wout : WX}
theorem ps_try_any (hs : X.stack = X.env :: X.outer) (hf : X.env.frame = some X.env.locals) (tk : L2N.Takes X Wout)
    (hb : ∀ (W : WX) (pn : List (Addr × Obj)) (xe : Value → Shared → Prop), L2N.Takes (X.tr pn xe) W → PassesOwn (model X.prog X.w) X.A X.env xe → PSs (X.tr pn xe) body (tb W))
    (hh : AnyOk X (h₀ :: hds) l) : PS X (.Try body (h₀ :: hds) [] [] pos) (fun D σ H => tb (wAny X.K Wout D l) D σ H) := by
  refine ⟨fun pins s σ H D Jn h => ?_⟩
  have okq := Jn.ok
  have hfq : X.A.frames = some (X.env :: X.outer) := by rw [okq.frames, hs]
  refine wpAny_Try_except ?_
  refine wpAny_mono ((hb (wAny X.K Wout D l) (X.pn ++ pins) (fun e s₁ => wpAny (model X.prog X.w) X.A (noteFrame e X.env) (fun _ s₂ => wpAny (model X.prog X.w) X.A (setFlight e none) (fun _ s₃ =>
    wpAny (model X.prog X.w) X.A (handleBy e X.env (h₀ :: hds)) (SP X pins D) X.xe s₃) X.xe s₂) X.xe s₁) (fun u s' xq => ?_) PassesOwn.looking).run [] s σ H D (Jn.toTry _) h) (fun f s1 hpq => ?_) (fun e s1 he => he)
  · -- the catch
    obtain ⟨aa, Bq, sI, pinq, σ', H', cls, d, rfl, J', nb, up, skq, na, os, ag, w⟩ := xq
    have Iq : Inv X pins σ' H' sI := J'.ofTry okq
    have sky' : Sky Bq (X.env :: X.outer) aa (L2N.Zn cls d) X.env.locals s'.heap := by rw [← hs]; exact skq
    show wpAny (model X.prog X.w) X.A (noteFrame (.ref aa) X.env) _ _ _
    refine L2N.Sky.land L2N.Zn.steady hfq hf sky' fun h3 gq3 vq3 => ?_
    have Kq3 : Inv X pins σ' H' { s' with heap := h3 } := Iq.landed nb gq3.1 (up.trans vq3) os ag
    obtain ⟨oq3, wq3, eq3, zq3, dq3⟩ := gq3.there
    have outF : ∀ {h : Heap} {o : Obj} {vs : Array Value}, h.FunFrames Bq (X.env :: X.outer) → h.get? aa = some o → o.data = .fields vs → aa ∉ frs (X.env :: X.outer) := fun {h o vs} ff e dd hm => by
      obtain ⟨_, o', e', hnf⟩ := ff.mem hm
      rw [e] at e'; cases e'
      exact hnf _ dd
    have nfq := outF gq3.2.2.1 eq3 dq3
    have aLq : aa ≠ X.env.locals := fun z => nfq (List.mem_filterMap.mpr ⟨X.env, List.mem_cons_self, by rw [hf, z]⟩)
    have aFq : aa ∉ X.fs := fun hm => by
      obtain ⟨e, he, q⟩ := List.mem_filterMap.mp hm
      exact nfq (List.mem_filterMap.mpr ⟨e, List.mem_cons_of_mem _ he, q⟩)
    have Tq3 := Kq3.suite eq3 dq3 na aLq aFq
    have go : ∀ {hds' : List ExceptHandler} {l' : List (Value × Option Nat × (Addr → Value → Option Addr → TS))}, AnyOk X hds' l' → wAny X.K Wout D l' cls d σ' H' →
        wpAny (model X.prog X.w) X.A (handleBy (.ref aa) X.env hds') (SP X pins D) X.xe { s' with heap := h3 } := by
      intro hds' l' hk
      induction hk with
      | nil =>
        intro w
        refine wpAny_handleBy_nil ?_
        obtain ⟨k1, k2, k3, oe, vs, T, oT, ts', he, hz, hd, h1, hr⟩ := id gq3
        unfold PySem.passOn
        refine wpAny_bind (wpAny_field he hd h1 ?_)
        rw [if_neg (show ¬ ((Value.ref T == Value.none) = true) from by simp)]
        have finq : wpAny (model X.prog X.w) X.A (setFlight (.ref aa) X.env.frame) (fun _ s4 => wpAny (model X.prog X.w) X.A (throw (.ref aa) : Sem Flow) (SP X pins D) X.xe s4) X.xe { s' with heap := h3 } := by
          rw [hf]
          refine HandSPX.setFlight_upZ gq3 fun h4 hh4 vq4 => wpAny_throw (tk _ _ ?_)
          exact ⟨aa, Bq, sI, pins, σ', H', cls, d, rfl, Iq, nb, (up.trans vq3).trans vq4, .inr (.inr (by rw [hs]; exact hh4)), na, os, ag, w⟩
        first
          | exact wpAny_bind (wpAny_pure (wpAny_bind finq))
          | exact wpAny_bind finq
      | @only x c ts b₀ suite np pos' hds2 l2 hc hsu r ih =>
        intro w
        obtain ⟨b, hbq, yesq, noq⟩ := w
        refine wpAny_handleBy_cons (codeAny_handlers_test ?_) (by intro q; cases q)
        have LTq : PySem.W.Looks (model X.prog X.w) h3 (typeOf (.ref aa)) cls := fun A Q E s k q => wpAny_typeOf_ref (k _ _ eq3) (by rw [zq3.1]; exact q)
        have LMq := PySem.W.exm_one (M := model X.prog X.w) (Kq3.kIn) LTq hbq
        have tst : ∀ {Q : Value → Shared → Prop} {E : Value → Shared → Prop}, Q c { s' with heap := h3 } → wpAny (model X.prog X.w) (X.A.mark (some (.ref aa))) (eval (.Name x np) X.env) Q E { s' with heap := h3 } := fun {Q E} q => by
          obtain ⟨hg, hdbg, hm | ⟨hm, hv, hnn⟩⟩ := hc
          · exact ld_glob (X := X.suite aa ((aa, oq3) :: (X.pn ++ pins))) Tq3 hg hm q hdbg
          · exact ld_blt (X := X.suite aa ((aa, oq3) :: (X.pn ++ pins))) Tq3 hg hm hv q hnn hdbg
        refine tst (LMq.here ?_)
        cases b with
        | true =>
          refine codeAny_handlers_suite ?_
          refine HandSPX.lands_againZ gq3 fun h4 gq4 vq4 => ?_
          have Kq4 : Inv X pins σ' H' { s' with heap := h4 } := Iq.landed nb gq4.1 ((up.trans vq3).trans vq4) os ag
          obtain ⟨oq4, vs4, eq4, zq4, dq4⟩ := gq4.there
          have Tq4 := Kq4.suite eq4 dq4 na aLq aFq
          refine wpAny_mono ((hsu aa oq4 cls d (X.pn ++ pins) zq4 ⟨_, dq4⟩).run [] _ _ H' _ Tq4 (yesq rfl aa na)) (fun f s6 hpq => ?_) (fun _ _ z => False.elim z)
          cases f with
          | next =>
            obtain ⟨σ6, H6, Tq6, wq6⟩ := hpq
            exact ⟨_, _, Tq6.unsuite okq, wq6⟩
          | brk =>
            obtain ⟨σ6, H6, Tq6, wq6⟩ := hpq
            exact ⟨_, _, Tq6.unsuite okq, wq6⟩
          | cont =>
            obtain ⟨σ6, H6, Tq6, wq6⟩ := hpq
            exact ⟨_, _, Tq6.unsuite okq, wq6⟩
          | ret u =>
            obtain ⟨v6, σ6, H6, Tq6, r6, wq6⟩ := hpq
            exact ⟨_, _, _, Tq6.unsuite okq, r6, wq6⟩
        | false =>
          show wpAny _ X.A (handleBy (.ref aa) X.env hds2) _ _ _
          exact ih (noq rfl)
      | @named x n i c ts b₀ suite np pos' hds2 l2 hc hN hi hln hsu r ih =>
        intro w
        obtain ⟨b, hbq, yesq, noq⟩ := w
        refine wpAny_handleBy_cons (codeAny_handlers_test ?_) (by intro q; cases q)
        have LTq : PySem.W.Looks (model X.prog X.w) h3 (typeOf (.ref aa)) cls := fun A Q E s k q => wpAny_typeOf_ref (k _ _ eq3) (by rw [zq3.1]; exact q)
        have LMq := PySem.W.exm_one (M := model X.prog X.w) (Kq3.kIn) LTq hbq
        have tst : ∀ {Q : Value → Shared → Prop} {E : Value → Shared → Prop}, Q c { s' with heap := h3 } → wpAny (model X.prog X.w) (X.A.mark (some (.ref aa))) (eval (.Name x np) X.env) Q E { s' with heap := h3 } := fun {Q E} q => by
          obtain ⟨hg, hdbg, hm | ⟨hm, hv, hnn⟩⟩ := hc
          · exact ld_glob (X := X.suite aa ((aa, oq3) :: (X.pn ++ pins))) Tq3 hg hm q hdbg
          · exact ld_blt (X := X.suite aa ((aa, oq3) :: (X.pn ++ pins))) Tq3 hg hm hv q hnn hdbg
        refine tst (LMq.here ?_)
        cases b with
        | true =>
          refine codeAny_handlers_suite_as ?_
          refine HandSPX.lands_againZ gq3 fun h4 gq4 vq4 => ?_
          have Kq4 : Inv X pins σ' H' { s' with heap := h4 } := Iq.landed nb gq4.1 ((up.trans vq3).trans vq4) os ag
          obtain ⟨oq4, vs4, eq4, zq4, dq4⟩ := gq4.there
          have Tq4 := Kq4.suite eq4 dq4 na aLq aFq
          refine store_ok (X := X.suite aa ((aa, oq4) :: (X.pn ++ pins))) (v := .ref aa) Tq4 hN hi (.inl hln) rfl (fun s5 Tq5 => ?_) (.inr hln)
          refine wpAny_mono ((hsu aa oq4 cls d (X.pn ++ pins) zq4 ⟨_, dq4⟩).run [] s5 _ H' _ Tq5 (yesq rfl aa na)) (fun f s6 hpq => ?_) (fun _ _ z => False.elim z)
          have endq : ∀ {σ6 : L2.St} {H6 : Hp} {Q : Shared → Prop}, Inv (X.suite aa ((aa, oq4) :: (X.pn ++ pins))) [] σ6 H6 s6 → (∀ s7, Inv X pins (σ6.set i none) H6 s7 → Q s7) →
              wpAny (model X.prog X.w) X.A (do bindName X.env n .none; unbindBehindTheSuite X.env n pos') (fun _ s7 => Q s7) X.xe s6 := fun {σ6 H6 Q} Tq6 hq => gone_ok (Tq6.unsuite okq) hN hi hln hq
          cases f with
          | next =>
            obtain ⟨σ6, H6, Tq6, wq6⟩ := hpq
            exact endq Tq6 fun s7 Iq7 => ⟨_, _, Iq7, wq6⟩
          | brk =>
            obtain ⟨σ6, H6, Tq6, wq6⟩ := hpq
            exact endq Tq6 fun s7 Iq7 => ⟨_, _, Iq7, wq6⟩
          | cont =>
            obtain ⟨σ6, H6, Tq6, wq6⟩ := hpq
            exact endq Tq6 fun s7 Iq7 => ⟨_, _, Iq7, wq6⟩
          | ret u =>
            obtain ⟨v6, σ6, H6, Tq6, r6, wq6⟩ := hpq
            exact endq Tq6 fun s7 Iq7 => ⟨_, _, _, Iq7, r6, wq6⟩
        | false =>
          show wpAny _ X.A (handleBy (.ref aa) X.env hds2) _ _ _
          exact ih (noq rfl)
    exact go hh w
  · cases f with
    | next =>
      obtain ⟨σ', H', J', q⟩ := hpq
      exact wpAny_execs_nil ⟨σ', H', J'.ofTry okq, q⟩
    | brk =>
      obtain ⟨σ', H', J', q⟩ := hpq
      exact ⟨σ', H', J'.ofTry okq, q⟩
    | cont =>
      obtain ⟨σ', H', J', q⟩ := hpq
      exact ⟨σ', H', J'.ofTry okq, q⟩
    | ret u =>
      obtain ⟨v, σ', H', J', r, q⟩ := hpq
      exact ⟨v, σ', H', J'.ofTry okq, r, q⟩
end
end Vx
set_option Elab.async false
set_option linter.all false
set_option maxRecDepth 100000
set_option maxHeartbeats 2000000
/-! Vx4: raise, try as functions; a caught exception's fields. -/
namespace Vl
open PySem PySem.Spec PyProof.Rows L2 Vx

section
variable {m : Str → Option Value} {K : PySem.W.Frag} {h h' : Option (Addr × Value × Option Addr)} {S : Addr → Prop} {H : Hp}
mutual
theorem Rep.hd {v : V} : ∀ {d : D}, Rep ⟨m, K, h⟩ S H v d → Rep ⟨m, K, h'⟩ S H v d
  | .non, q => q
  | .bl _, q => q
  | .int _, q => q
  | .str _, q => q
  | .tup ds, q => by obtain ⟨a, us, e, r, n, z⟩ := q; exact ⟨a, us, e, r, n, RepL.hd z⟩
  | .scr ns, q => q
  | .lst ds, q => by obtain ⟨a, us, e, r, n, z⟩ := q; exact ⟨a, us, e, r, n, RepL.hd z⟩
  | .dct ps, q => by obtain ⟨a, us, e, r, n, z⟩ := q; exact ⟨a, us, e, r, n, RepP.hd z⟩
  | .ins C gs, q => by obtain ⟨a, Ca, dx, fs, e, r, n, mm, z⟩ := q; exact ⟨a, Ca, dx, fs, e, r, n, mm, RepF.hd z⟩
  | .glo x, q => q
theorem RepL.hd {us : List V} : ∀ {ds : List D}, RepL ⟨m, K, h⟩ S H us ds → RepL ⟨m, K, h'⟩ S H us ds
  | [], q => q
  | d :: ds, q => by obtain ⟨u, r, e, h1, h2⟩ := q; exact ⟨u, r, e, Rep.hd h1, RepL.hd h2⟩
theorem RepP.hd {us : List (Key × V)} : ∀ {ds : List (Key × D)}, RepP ⟨m, K, h⟩ S H us ds → RepP ⟨m, K, h'⟩ S H us ds
  | [], q => q
  | (_, d) :: ds, q => by obtain ⟨u, r, e, h1, h2⟩ := q; exact ⟨u, r, e, Rep.hd h1, RepP.hd h2⟩
theorem RepF.hd {us : List (Str × V)} : ∀ {ds : List (Str × D)}, RepF ⟨m, K, h⟩ S H us ds → RepF ⟨m, K, h'⟩ S H us ds
  | [], q => q
  | (_, d) :: ds, q => by obtain ⟨u, r, e, h1, h2⟩ := q; exact ⟨u, r, e, Rep.hd h1, RepF.hd h2⟩
end
end
section
variable {m : Str → Option Value} {K : PySem.W.Frag} {h h' : Option (Addr × Value × Option Addr)} {ρ : Rho} {M : Mem} {H : Hp} {u : V} {v : Val}
theorem RepW.hd (q : RepW ⟨m, K, h⟩ ρ M H u v) : RepW ⟨m, K, h'⟩ ρ M H u v := by
  cases v with
  | d x => exact Rep.hd (d := x) q
  | obj k => exact q
  | exc x => exact q
theorem RepFV.hd : ∀ {vs : List (Str × Val)} {us : List (Str × V)}, RepFV ⟨m, K, h⟩ ρ M H us vs → RepFV ⟨m, K, h'⟩ ρ M H us vs
  | [], _, q => q
  | (_, v) :: vs, _, q => by obtain ⟨u, r, e, h1, h2⟩ := q; exact ⟨u, r, e, h1.hd, RepFV.hd h2⟩
theorem RepO.hd {a : Addr} {o : MO} (q : RepO ⟨m, K, h⟩ ρ M H a o) : RepO ⟨m, K, h'⟩ ρ M H a o := by
  cases o with
  | lst ds => obtain ⟨us, e, z⟩ := q; exact ⟨us, e, RepL.hd z⟩
  | dct ds => obtain ⟨us, e, z⟩ := q; exact ⟨us, e, RepP.hd z⟩
  | ins C gs => obtain ⟨Ca, dx, fs, e, mm, z⟩ := q; exact ⟨Ca, dx, fs, e, mm, z.hd⟩
  | dead => trivial
theorem Gs.hd (g : Gs ⟨m, K, h⟩ ρ M H) : Gs ⟨m, K, h'⟩ ρ M H := ⟨fun k o e => (g.at_ k o e).hd, g.inj, g.zin, g.zlv⟩
theorem RepX.hd {cls : Value} {dd : Option Addr} {x : Exn} (q : RepX ⟨m, K, h⟩ ρ M H cls dd x) : RepX ⟨m, K, h'⟩ ρ M H cls dd x := by
  obtain ⟨C, e1, e2, z⟩ := q
  exact ⟨C, e1, e2, z.imp id fun ⟨d, fs, a, b, c, e⟩ => ⟨d, fs, a, b, c, RepF.hd e⟩⟩
theorem RepV.hd (q : RepV ⟨m, K, h⟩ ρ M H u v) (n : noX v = true) : RepV ⟨m, K, h'⟩ ρ M H u v := (q.toW n).hd.toV
theorem RepV.clean (q : RepV ⟨m, K, none⟩ ρ M H u v) : noX v = true := by
  cases v with
  | d x => rfl
  | obj k => rfl
  | exc x => obtain ⟨a, cls, dd, e, _⟩ := q; cases e
theorem Es.hd {env : En} {σ : L2.St} (es : Es ⟨m, K, none⟩ ρ env M σ H) : Es ⟨m, K, h⟩ ρ env M σ H :=
  ⟨es.gs.hd, fun i v e => let ⟨u, a, b⟩ := es.sl i v e; ⟨u, a, b.hd b.clean⟩, es.len⟩
end

/-! ### raise -/
section
variable {X : Cx} {W : WX} {e e2 : Expr} {f g : EF} {p pos pos' : Pos} {k : Nat} {x n n' : Str}
def exn1 (x n : Str) (e : En) (v : Val) (M : Mem) : O := match v with
  | .d y => .er ⟨x, [(n, y)]⟩ e M
  | _ => .bad
def sRaise1 (x n : Str) (f : EF) : SF := fun e M => rO (f e M) e fun v M1 => exn1 x n e v M1
theorem vs_raise1 (cc : ECal1 X.prog X.w X.K X.mg x n) (hr : Room (k + 1) X.A) (hc : X.calm = true) (tk : L2N.Takes X W) (hg : Gl X x) (he : VE X W e f) (hdb : (x == ("__debug__" : Str)) = false := by decide)
    (hs : starEach (e :: []) X.env = (false, eval e X.env) :: starEach [] X.env := by rfl) (hpl : (backTo pos (starEach [] X.env)).any (·.1) = false := by rfl) : VS X W (.Raise (some (.Call (.Name x p) [e] [] pos)) none pos') (sRaise1 x n f) :=
  ps_imp (L2N.ps_raise hc tk (pmk_x1 cc hr hg (pa_cons he pa_nil hs) hdb hs hpl)) fun D σ H h => by
    obtain ⟨C, _, hm, _⟩ := cc.ex
    refine liftS_bind h fun ρ env M H1 u v es rv q => ⟨u, rfl, C, hm, fun d hd => ?_⟩
    unfold exn1 at q
    split at q
    · rename_i y
      obtain ⟨s1, g1, n1⟩ := es.gs.alloc hd (.xd [(n, u)])
      exact q ρ σ _ _ _ s1 (es.step s1 g1) ⟨C, hm, rfl, .inr ⟨d, _, rfl, upd_same, n1, u, [], rfl, Rep.mono s1.keep rv, rfl⟩⟩
    · exact q.elim
def exn2 (x n n' : Str) (e : En) (vs : List Val) (M : Mem) : O := match vs with
  | [.d y, .d z] => .er ⟨x, [(n', z), (n, y)]⟩ e M
  | _ => .bad
def sRaise2 (x n n' : Str) (fs : En → Mem → R (List Val)) : SF := fun e M => rOs (fs e M) e fun v M1 => exn2 x n n' e v M1
theorem vs_raise2 {fs : En → Mem → R (List Val)} (cc : ECal2 X.prog X.w X.K X.mg x n n') (hr : Room (k + 1) X.A) (hc : X.calm = true) (tk : L2N.Takes X W) (hg : Gl X x) (he : VA X W [e, e2] fs) (hdb : (x == ("__debug__" : Str)) = false := by decide)
    (hs : starEach (e :: [e2]) X.env = (false, eval e X.env) :: starEach [e2] X.env := by rfl) (hpl : (backTo pos (starEach [e2] X.env)).any (·.1) = false := by rfl) : VS X W (.Raise (some (.Call (.Name x p) [e, e2] [] pos)) none pos') (sRaise2 x n n' fs) :=
  ps_imp (L2N.ps_raise hc tk (pmk_x2 cc hr hg he hdb hs hpl)) fun D σ H h => by
    obtain ⟨C, _, hm, _⟩ := cc.ex
    obtain ⟨ρ, env, M, es, h⟩ := h
    refine ⟨ρ, env, M, es, (Konts.toS es h).mono (fun us H1 ⟨ρ1, M1, vs, s0, es1, rv, q⟩ => ?_) fun _ _ _ z => z⟩
    unfold exn2 at q
    split at q
    · rename_i y z
      obtain ⟨u1, r1, rfl, h1, u2, r2, rfl, h2, rfl⟩ := rv
      refine ⟨u1, u2, rfl, C, hm, fun d hd => ?_⟩
      obtain ⟨s1, g1, n1⟩ := es1.gs.alloc hd (.xd [(n', u2), (n, u1)])
      exact q ρ1 σ _ _ _ s1 (es1.step s1 g1) ⟨C, hm, rfl, .inr ⟨d, _, rfl, upd_same, n1, u2, _, rfl, Rep.mono s1.keep h2, u1, [], rfl, Rep.mono s1.keep h1, rfl⟩⟩
    · exact q.elim
end

/-! ### try -/
/-- a clause: which classes it takes, the name's slot, its suite -/
structure Hcl where
  t : Str → Option Bool
  i : Option Nat
  G : SF
def unb (i : Option Nat) (e : En) : En := match i with
  | some j => e.set j none
  | none => e
def unbS (i : Option Nat) (σ : L2.St) : L2.St := match i with
  | some j => σ.set j none
  | none => σ
def bnd (i : Option Nat) (x : Exn) (e : En) : En := match i with
  | some j => e.set j (some (.exc x))
  | none => e
def CleanE (i : Option Nat) (e0 e : En) : Prop := ∀ (j : Nat) (v : Val), (unb i e)[j]? = some (some v) → noX v = true ∨ e0[j]? = some (some v)
noncomputable def unbindO (i : Option Nat) (e0 : En) : O → O := open Classical in fun o => match o with
  | .nx e M => if CleanE i e0 e then .nx (unb i e) M else .bad
  | .rt v M => if noX v = true then .rt v M else .bad
  | .bk e M => if CleanE i e0 e then .bk (unb i e) M else .bad
  | .ct e M => if CleanE i e0 e then .ct (unb i e) M else .bad
  | .er _ _ _ => .bad
  | .bad => .bad
noncomputable def handle (x : Exn) (e : En) (M : Mem) : List Hcl → O
  | [] => .er x e M
  | h :: r => match h.t x.cls with
    | some true => unbindO h.i e (h.G (bnd h.i x e) M)
    | some false => handle x e M r
    | none => .bad
noncomputable def sTry (F : SF) (l : List Hcl) : SF := fun e M => match F e M with
  | .er x e1 M1 => handle x e1 M1 l
  | o => o
inductive HdOk (X : Cx) : List ExceptHandler → List Hcl → List (Value × Option Nat × (Addr → Value → Option Addr → TS)) → Prop
  | nil : HdOk X [] [] []
  | only {x : Str} {c : Value} {G : SF} {t : Str → Option Bool} {b₀ : Stmt} {suite : List Stmt} {np pos' : Pos} {hds : List ExceptHandler} {l l'} (hc : Names X x c) (ht : ∀ cn b C, t cn = some b → X.mg cn = some (.ref C) → PySem.W.exmOne X.K (.ref C) c = some b)
      (hsu : ∀ (a : Addr) (oe : Obj) (cls : Value) (d : Option Addr) (pn : List (Addr × Obj)), L2N.Zn cls d oe → (∃ vs, oe.data = .fields vs) → VSs (X.suite a ((a, oe) :: pn)) W0 (b₀ :: suite) G) (r : HdOk X hds l l') :
      HdOk X (.ExceptHandler (some (.Name x np)) none (b₀ :: suite) pos' :: hds) (⟨t, none, G⟩ :: l) ((c, none, fun a cls d => liftS ⟨X.mg, X.K, some (a, cls, d)⟩ W0 G) :: l')
  | named {x n : Str} {i : Nat} {c : Value} {G : SF} {t : Str → Option Bool} {b₀ : Stmt} {suite : List Stmt} {np pos' : Pos} {hds : List ExceptHandler} {l l'} (hc : Names X x c) (hN : X.N.Nodup) (hi : X.N[i]? = some n) (hln : X.env.kindOf n = some .local)
      (ht : ∀ cn b C, t cn = some b → X.mg cn = some (.ref C) → PySem.W.exmOne X.K (.ref C) c = some b)
      (hsu : ∀ (a : Addr) (oe : Obj) (cls : Value) (d : Option Addr) (pn : List (Addr × Obj)), L2N.Zn cls d oe → (∃ vs, oe.data = .fields vs) → VSs (X.suite a ((a, oe) :: pn)) W0 (b₀ :: suite) G) (r : HdOk X hds l l') :
      HdOk X (.ExceptHandler (some (.Name x np)) (some n) (b₀ :: suite) pos' :: hds) (⟨t, some i, G⟩ :: l) ((c, some i, fun a cls d => liftS ⟨X.mg, X.K, some (a, cls, d)⟩ W0 G) :: l')
section
variable {X : Cx} {W : WX}
theorem gm_suite {a : Addr} {oe : Obj} {cls : Value} {d : Option Addr} {pn : List (Addr × Obj)} (z : L2N.Zn cls d oe) : gm (X.suite a ((a, oe) :: pn)) = ⟨X.mg, X.K, some (a, cls, d)⟩ := by
  obtain ⟨rfl, rfl, _⟩ := z
  show (⟨X.mg, X.K, hdOf (X.suite a ((a, oe) :: pn))⟩ : Mg) = _
  have : hdOf (X.suite a ((a, oe) :: pn)) = some (a, oe.cls, oe.dict) := by
    show (List.lookup a ((a, oe) :: pn)).map (fun o => (a, o.cls, o.dict)) = _
    rw [List.lookup_cons, beq_self_eq_true]
    rfl
  rw [this]
theorem any_hd {hds l l'} (k : HdOk X hds l l') : AnyOk X hds l' := by
  induction k with
  | nil => exact .nil
  | only hc ht hsu r ih =>
    refine .only hc (fun a oe cls d pn z f => ?_) ih
    have q := hsu a oe cls d pn z f
    unfold VSs at q
    rw [gm_suite z] at q
    exact q
  | named hc hN hi hln ht hsu r ih =>
    refine .named hc hN hi hln (fun a oe cls d pn z f => ?_) ih
    have q := hsu a oe cls d pn z f
    unfold VSs at q
    rw [gm_suite z] at q
    exact q
/-- a clause's suite, then its name is gone -/
theorem suite_end {ρ : Rho} {M : Mem} {H : Hp} {D : Ends} {i : Option Nat} {e0 : En} {o : O} {hd : Option (Addr × Value × Option Addr)} {D' : Ends} (h : KontS ⟨X.mg, X.K, none⟩ ρ M H (unbindO i e0 o) D W) (hc0 : ∀ (j : Nat) (v : Val), e0[j]? = some (some v) → noX v = true)
    (hD : D' = match i with | some j => goneAt D j | none => D) : KontS ⟨X.mg, X.K, hd⟩ ρ M H o D' W0 := by
  have es_end : ∀ {ρ1 : Rho} {e1 : En} {M1 : Mem} {σ1 : L2.St} {H1 : Hp}, CleanE i e0 e1 → Es ⟨X.mg, X.K, hd⟩ ρ1 e1 M1 σ1 H1 → Es ⟨X.mg, X.K, none⟩ ρ1 (unb i e1) M1 (unbS i σ1) H1 := fun {ρ1 e1 M1 σ1 H1} hc es => by
    have es2 : Es ⟨X.mg, X.K, hd⟩ ρ1 (unb i e1) M1 (unbS i σ1) H1 := by
      cases i with
      | none => exact es
      | some j => exact es.unset
    refine ⟨es2.gs.hd, fun j v e => ?_, es2.len⟩
    obtain ⟨u, a, b⟩ := es2.sl j v e
    exact ⟨u, a, b.hd ((hc j v e).elim id (hc0 j v))⟩
  cases o with
  | nx e1 M1 =>
    unfold unbindO at h
    dsimp only at h
    split at h
    · rename_i hc
      intro ρ1 σ1 H1 s1 es1
      have q := h ρ1 _ H1 s1 (es_end hc es1)
      subst hD
      cases i <;> exact q
    · exact h.elim
  | bk e1 M1 =>
    unfold unbindO at h
    dsimp only at h
    split at h
    · rename_i hc
      intro ρ1 σ1 H1 s1 es1
      have q := h ρ1 _ H1 s1 (es_end hc es1)
      subst hD
      cases i <;> exact q
    · exact h.elim
  | ct e1 M1 =>
    unfold unbindO at h
    dsimp only at h
    split at h
    · rename_i hc
      intro ρ1 σ1 H1 s1 es1
      have q := h ρ1 _ H1 s1 (es_end hc es1)
      subst hD
      cases i <;> exact q
    · exact h.elim
  | rt v M1 =>
    unfold unbindO at h
    dsimp only at h
    split at h
    · rename_i hn
      intro ρ1 u H1 s1 g1 r1
      have q := h ρ1 u H1 s1 g1.hd (r1.hd hn)
      subst hD
      cases i <;> exact q
    · exact h.elim
  | er x e1 M1 => exact h.elim
  | bad => exact h.elim
theorem any_of {hds l l'} (k : HdOk X hds l l') {D : Ends} {x : Exn} {e : En} {M : Mem} {ρ : Rho} {σ : L2.St} {H : Hp} {cls : Value} {d : Option Addr} (h : KontS ⟨X.mg, X.K, none⟩ ρ M H (handle x e M l) D W) (es : Es ⟨X.mg, X.K, none⟩ ρ e M σ H) (rx : RepX ⟨X.mg, X.K, none⟩ ρ M H cls d x) :
    wAny X.K W D l' cls d σ H := by
  have hc0 : ∀ (j : Nat) (v : Val), e[j]? = some (some v) → noX v = true := fun j v q => let ⟨u, _, b⟩ := es.sl j v q; b.clean
  obtain ⟨C, hm, hcl, _⟩ := id rx
  induction k with
  | nil => exact h ρ σ cls d H .refl es rx
  | @only xn c G t b₀ suite np pos' hds l l' hc ht hsu r ih =>
    unfold handle at h
    split at h
    · rename_i eb
      refine ⟨true, ?_, fun _ a na => ?_, fun z => nomatch z⟩
      · rw [hcl]; exact ht _ _ _ eb hm
      · exact ⟨ρ, e, M, es.hd, suite_end h hc0 rfl⟩
    · rename_i eb
      refine ⟨false, ?_, (fun z => nomatch z), fun _ => ih h⟩
      rw [hcl]; exact ht _ _ _ eb hm
    · exact h.elim
  | @named xn n i c G t b₀ suite np pos' hds l l' hc hN hi hln ht hsu r ih =>
    unfold handle at h
    split at h
    · rename_i eb
      refine ⟨true, ?_, fun _ a na => ?_, fun z => nomatch z⟩
      · rw [hcl]; exact ht _ _ _ eb hm
      · exact ⟨ρ, bnd (some i) x e, M, (es.hd (h := some (a, cls, d))).set (v := .exc x) (u := .ref a) ⟨a, cls, d, rfl, rfl, rx.hd⟩, suite_end h hc0 rfl⟩
    · rename_i eb
      refine ⟨false, ?_, (fun z => nomatch z), fun _ => ih h⟩
      rw [hcl]; exact ht _ _ _ eb hm
    · exact h.elim
theorem vs_try {body : List Stmt} {h₀ : ExceptHandler} {hds : List ExceptHandler} {l : List Hcl} {l'} {pos : Pos} {F : SF} (hh : X.A.handled = none) (tk : L2N.Takes X W)
    (hb : ∀ (W : WX) (pn : List (Addr × Obj)) (xe : Value → Shared → Prop), L2N.Takes (X.tr pn xe) W → PassesOwn (model X.prog X.w) X.A X.env xe → VSs (X.tr pn xe) W body F) (k : HdOk X (h₀ :: hds) l l') (hs : X.stack = X.env :: X.outer := by rfl) (hf : X.env.frame = some X.env.locals := by rfl) :
    VS X W (.Try body (h₀ :: hds) [] [] pos) (sTry F l) := by
  refine ps_imp (ps_try_any (tb := fun W => liftS ⟨X.mg, X.K, none⟩ W F) hs hf tk (fun W pn xe t p => ?_) (any_hd k)) fun D σ H h => ?_
  · have q := hb W pn xe t p
    unfold VSs at q
    rw [gm_calm (X := X.tr pn xe) hh] at q
    exact q
  · rw [gm_calm hh] at h
    obtain ⟨ρ, env, M, es, h⟩ := h
    refine ⟨ρ, env, M, es, ?_⟩
    unfold sTry at h
    revert h
    cases F env M with
    | nx e1 M1 => exact fun h => h
    | rt v M1 => exact fun h => h
    | bk e1 M1 => exact fun h => h
    | ct e1 M1 => exact fun h => h
    | bad => exact fun h => h
    | er x e1 M1 => exact fun h ρ1 σ1 cls d H1 s1 es1 rx => any_of k (h.from s1) es1 rx
/-! ### a caught exception -/
def fXf (cs : List Str) (n : Str) (f : EF) : EF := fun e M => rbind (f e M) fun v M1 => match v with
  | .exc x => if x.cls ∈ cs then (match lookF n x.fs with
    | some y => .ok (.d y) M1
    | none => .bad) else .bad
  | _ => .bad
theorem repF_look {mg : Mg} {S : Addr → Prop} {H : Hp} {n : Str} {y : D} : ∀ {gs : List (Str × D)} {us : List (Str × V)}, RepF mg S H us gs → lookF n gs = some y → ∃ u, us.lookup n = some u ∧ Rep mg S H u y
  | [], _, _, e => by cases e
  | (g, d) :: gs, _, h, e => by
    obtain ⟨u, r, rfl, h1, h2⟩ := h
    unfold lookF at e
    by_cases z : n = g
    · rw [if_pos z] at e
      cases e
      refine ⟨u, ?_, h1⟩
      rw [List.lookup_cons, show (n == g) = true from by rw [z]; exact beq_self_eq_true g]
    · rw [if_neg z] at e
      obtain ⟨w, a, b⟩ := repF_look h2 e
      refine ⟨w, ?_, b⟩
      rw [List.lookup_cons, show (n == g) = false from beq_eq_false_iff_ne.mpr z]
      exact a
/-- e.n in the suite; cs: the classes that e may be of -/
theorem ve_xf {a : Addr} {oe : Obj} {cls : Value} {d : Option Addr} {pn : List (Addr × Obj)} {e : Expr} {f : EF} {pos : Pos} {n : Str} {cs : List Str} {W : WX} (hcs : ∀ cn C, X.mg cn = some (.ref C) → cn ∈ cs → XfC X.K C ∧ PySem.W.findIn X.K (.ref C) n = some none)
    (hz : L2N.Zn cls d oe) (hf : ∃ vs, oe.data = .fields vs) (he : VE (X.suite a ((a, oe) :: pn)) W e f) (hb : attributeBase e n X.env (eval e X.env) = eval e X.env := by rfl) :
    VE (X.suite a ((a, oe) :: pn)) W (.Attribute e n pos) (fXf cs n f) := by
  have eg : gm (X.suite a ((a, oe) :: pn)) = ⟨X.mg, X.K, some (a, cls, d)⟩ := gm_suite hz
  by_cases hC : ∃ cn C, cls = .ref C ∧ X.mg cn = some (.ref C) ∧ cn ∈ cs
  · obtain ⟨cn0, C, ec, mc, hcn⟩ := hC
    obtain ⟨T, hno⟩ := hcs cn0 C mc hcn
    refine pe_imp (pe_xf T hno hz.zc hf he hb) fun σ H Q h => ?_
    refine lift_bind h fun ρ env M H1 u v es rv q => ?_
    rw [eg] at rv
    cases v with
    | d x => exact q.elim
    | obj k => exact q.elim
    | exc x =>
      obtain ⟨a', cls', dd', eh, eu, rx⟩ := rv
      cases eh
      dsimp only at q
      split at q
      · split at q
        · rename_i y el
          obtain ⟨C2, m2, c2, z⟩ := rx
          refine ⟨eu, ec, ?_⟩
          rcases z with ⟨z, _⟩ | ⟨dd, fs, ed, eH, nS, rf⟩
          · rw [z] at el; cases el
          · obtain ⟨w, lw, rw'⟩ := repF_look rf el
            exact ⟨dd, fs, w, ed, eH, lw, q ρ w H1 .refl es.gs (by rw [eg]; exact rw')⟩
        · exact q.elim
      · exact q.elim
  · refine ⟨fun pins s σ H Q I h => ?_⟩
    have h2 : lift (gm (X.suite a ((a, oe) :: pn))) W f σ H (fun _ _ => False) := lift_bind h fun ρ env M H1 u v es rv q => by
      rw [eg] at rv
      cases v with
      | d x => exact q.elim
      | obj k => exact q.elim
      | exc x =>
        obtain ⟨a', cls', dd', eh, eu, rx⟩ := rv
        cases eh
        dsimp only at q
        split at q
        · rename_i hx
          obtain ⟨C2, m2, c2, z⟩ := rx
          exact hC ⟨x.cls, C2, c2, m2, hx⟩
        · exact q.elim
    refine attr_of hb (thn (he.run pins s σ H _ I h2) fun u s1 hh => ?_)
    obtain ⟨_, _, _, _, z⟩ := hh
    exact z.elim
end
end Vl
set_option Elab.async false
set_option linter.all false
set_option maxRecDepth 100000
set_option maxHeartbeats 1000000
/-! Vl11: built-in functions: isinstance, len, int, str, list, tuple, max, min, sum, any, all, abs. -/
namespace Vl
open PySem PySem.Spec PyProof.Rows L2

/-! ### isinstance -/
inductive Ty where
  | b (n : String) | c (C : Str)
def tyOf (M : Mem) : Val → Option Ty
  | .d .non => some (.b "NoneType")
  | .d (.bl _) => some (.b "bool")
  | .d (.int _) => some (.b "int")
  | .d (.str _) => some (.b "str")
  | .d (.scr _) => some (.b "list")
  | .d (.lst _) => some (.b "list")
  | .d (.tup _) => some (.b "tuple")
  | .d (.dct _) => some (.b "dict")
  | .d (.ins C _) => some (.c C)
  | .d (.glo _) => none
  | .obj k => (match M[k]? with
    | some (.lst _) => some (.b "list")
    | some (.dct _) => some (.b "dict")
    | some (.ins C _) => some (.c C)
    | _ => none)
  | .exc _ => none
def tys : List String := ["NoneType", "bool", "int", "str", "list", "tuple", "dict"]
/-- n's values are T's -/
def isB (T n : String) : Bool := n == T || (T == "int" && n == "bool")
theorem kit_tys : ∀ T ∈ tys, T ≠ "NoneType" → ∀ n ∈ tys, kitB n T = some (isB T n) := by decide +kernel
structure IsCls (K : PySem.W.Frag) (C : Addr) : Prop where
  cl : Cls K C
  ha : PySem.W.findIn K (.ref C) "__class__" = some (some (.builtin "object.__class__"))
  hn : PySem.W.specialIn K (.builtin "object.__class__") "__get__" = some (some (.builtin "getset_descriptor.__get__"))
  htk : PySem.W.takesIn K (.builtin "object.__class__") = some true
  hm : PySem.W.mroIn K C (.type "object") = some true
/-- of the class cn one is asked cv: b -/
structure AskC (K : PySem.W.Frag) (mg : Str → Option Value) (cn : Str) (cv : Value) (b : Bool) : Prop where
  ex : ∃ C, mg cn = some (.ref C) ∧ IsCls K C ∧ PySem.W.kitOne K (.ref C) cv = some b
def TyOk (mg : Mg) (H : Hp) (u : V) : Ty → Prop
  | .b n => n ∈ tys ∧ TyX mg.K H u (.type n)
  | .c cn => ∃ C, mg.m cn = some (.ref C) ∧ (IsCls mg.K C → TyX mg.K H u (.ref C))
section
variable {mg : Mg} {ρ : Rho} {M : Mem} {H : Hp} {u : V} {v : Val} {t : Ty}
theorem tyOf_rep (g : Gs mg ρ M H) (r : RepV mg ρ M H u v) (e : tyOf M v = some t) : TyOk mg H u t := by
  have insT : ∀ {a C dx : Addr} {fs : List (Str × V)}, H a = some (.ins C dx fs) → IsCls mg.K C → TyX mg.K H (.ref a) (.ref C) := fun e h => .base (.ins e h.cl h.ha h.hn h.htk h.hm)
  cases v with
  | exc x => cases e
  | obj k =>
    obtain ⟨rfl, hk⟩ := r
    unfold tyOf at e
    dsimp only at e
    split at e
    · rename_i l el
      cases e
      obtain ⟨us, h, _⟩ := g.at_ k _ el
      exact ⟨by decide, .base (.lst h)⟩
    · rename_i l el
      cases e
      obtain ⟨us, h, _⟩ := g.at_ k _ el
      exact ⟨by decide, .base (.dK h)⟩
    · rename_i C fs el
      cases e
      obtain ⟨Ca, dx, us, h, m, _⟩ := g.at_ k _ el
      exact ⟨Ca, m, insT h⟩
    · cases e
  | d x =>
    cases x with
    | non => cases e; cases r; exact ⟨by decide, .base .non⟩
    | bl b => cases e; cases r; exact ⟨by decide, .base (.bl b)⟩
    | int b => cases e; cases r; exact ⟨by decide, .base (.int b)⟩
    | str b => cases e; cases r; exact ⟨by decide, .base (.str b)⟩
    | scr ns =>
      cases e
      obtain ⟨a, rfl, h⟩ := r
      refine ⟨by decide, ?_⟩
      have key : SqL mg.K H a (ns.map V.int) := by
        rcases h with ⟨h, _⟩ | h
        · exact .inl h
        · exact h H
      rcases key with (h | ⟨o, h⟩) | ⟨o, its, n, lk, ec, _⟩
      · exact .base (.lst h)
      · exact .base (.frz h)
      · exact .kList lk ec
    | lst l =>
      cases e
      obtain ⟨a, us, rfl, h, _⟩ := r
      exact ⟨by decide, .base (.lst h)⟩
    | tup l =>
      cases e
      obtain ⟨a, us, rfl, h, _⟩ := r
      refine ⟨by decide, ?_⟩
      rcases h with h | ⟨o, h⟩
      · exact .base (.tup h)
      · exact .fTuple h
    | dct l =>
      cases e
      obtain ⟨a, us, rfl, h, _⟩ := r
      refine ⟨by decide, ?_⟩
      rcases h with h | ⟨o, h⟩
      · exact .base (.dK h)
      · exact .fDict h
    | ins C fs =>
      cases e
      obtain ⟨a, Ca, dx, us, rfl, h, _, m, _⟩ := r
      exact ⟨Ca, m, insT h⟩
    | glo x => cases e
end
def isiR (bt : String → Bool) (ct : Str → Option Bool) (M : Mem) (v : Val) : R Val := match tyOf M v with
  | some (.b n) => .ok (.d (.bl (bt n))) M
  | some (.c C) => (match ct C with
    | some b => .ok (.d (.bl b)) M
    | none => .bad)
  | none => .bad
def fIsi (bt : String → Bool) (ct : Str → Option Bool) (f : EF) : EF := fun e M => rbind (f e M) fun v M1 => isiR bt ct M1 v
section
variable {X : Cx} {W : WX} {e e2 : Expr} {es : List Expr} {f g : EF} {p p2 pos : Pos} {x : Str} {fs : En → Mem → R (List Val)}
theorem ve_isi {T : Expr} {c : V} {cv : Value} {bt : String → Bool} {ct : Str → Option Bool} (hT : PE X T (tC c)) (hc : ClsV c cv) (hb : ∀ n ∈ tys, PySem.W.kitOne X.K (.type n) cv = some (bt n)) (hcs : ∀ cn b, ct cn = some b → AskC X.K X.mg cn cv b)
    (hg : Gl X "isinstance") (hm : X.mg "isinstance" = none) (he : VE X W e f) (hs : starEach (e :: [T]) X.env = (false, eval e X.env) :: starEach [T] X.env := by rfl) (hs2 : starEach (T :: []) X.env = (false, eval T X.env) :: starEach [] X.env := by rfl)
    (hpl : (backTo pos (starEach [T] X.env)).any (·.1) = false := by rfl) : VE X W (.Call (.Name "isinstance" p) [e, T] [] pos) (fIsi bt ct f) := by
  refine pe_imp (pe_callB call_isi hg hm (by decide +kernel) (pa_cons he (pa_cons hT pa_nil hs2) hs) (by decide) (by decide) hs hpl) fun σ H Q hh => ?_
  refine lift_bind hh fun ρ env M H1 u v es1 r q => ?_
  unfold isiR at q
  split at q
  · rename_i n et
    obtain ⟨hn, ty⟩ := tyOf_rep es1.gs r et
    exact ⟨u, c, .type n, cv, bt n, rfl, hc, ty, hb n hn, q ρ _ H1 .refl es1.gs rfl⟩
  · rename_i C et
    split at q
    · rename_i b eb
      obtain ⟨Ca, mc, ty⟩ := tyOf_rep es1.gs r et
      obtain ⟨Cb, mb, ic, kb⟩ := (hcs _ _ eb).ex
      have : Ca = Cb := by
        have z : X.mg C = some (.ref Ca) := mc
        rw [mb] at z; cases z; rfl
      subst this
      exact ⟨u, c, .ref Ca, cv, b, rfl, hc, ty ic, kb, q ρ _ H1 .refl es1.gs rfl⟩
    · exact q.elim
  · exact q.elim
/-- a built-in type -/
theorem ve_isiB {T : String} {ct : Str → Option Bool} (hT : T ∈ tys ∧ T ≠ "NoneType" := by exact ⟨by decide, by decide⟩) (hcs : ∀ cn b, ct cn = some b → AskC X.K X.mg cn (.type T) b) (hgT : Gl X (T : String)) (hmT : X.mg (T : String) = none) (hv : bootBuiltins (T : String) = some (.type T))
    (hg : Gl X "isinstance") (hm : X.mg "isinstance" = none) (he : VE X W e f) (hn : ((T : String) : Str) ≠ "__name__" := by decide) (hd : (((T : String) : Str) == ("__debug__" : Str)) = false := by decide)
    (hs : starEach (e :: [.Name (T : String) p2]) X.env = (false, eval e X.env) :: starEach [.Name (T : String) p2] X.env := by rfl) : VE X W (.Call (.Name "isinstance" p) [e, .Name (T : String) p2] [] pos) (fIsi (isB T) ct f) :=
  ve_isi (pe_bltn (v := .ty T) hgT hmT hv rfl hn hd) (.ty T) (fun n hn => kit_ty (kit_tys T hT.1 hT.2 n hn)) hcs hg hm he hs
/-- a class of the program -/
theorem ve_isiC {T : Str} {C : Addr} {ct : Str → Option Bool} (hgT : Gl X T) (hmT : X.mg T = some (.ref C)) (hb : ∀ n ∈ tys, PySem.W.kitOne X.K (.type n) (.ref C) = some false) (hcs : ∀ cn b, ct cn = some b → AskC X.K X.mg cn (.ref C) b)
    (hg : Gl X "isinstance") (hm : X.mg "isinstance" = none) (he : VE X W e f) (hd : (T == ("__debug__" : Str)) = false := by decide)
    (hs : starEach (e :: [.Name T p2]) X.env = (false, eval e X.env) :: starEach [.Name T p2] X.env := by rfl) : VE X W (.Call (.Name "isinstance" p) [e, .Name T p2] [] pos) (fIsi (fun _ => false) ct f) :=
  ve_isi (pe_glob (v := .ref C) hgT hmT rfl hd) (.own C) hb hcs hg hm he hs
/-- one of two built-in types -/
theorem ve_isi2 {T T' : String} {k : Nat} {p3 pt : Pos} (hT : T ∈ tys ∧ T ≠ "NoneType" ∧ T' ∈ tys ∧ T' ≠ "NoneType" := by exact ⟨by decide, by decide, by decide, by decide⟩) (hgT : Gl X (T : String)) (hmT : X.mg (T : String) = none) (hv : bootBuiltins (T : String) = some (.type T))
    (hgT2 : Gl X (T' : String)) (hmT2 : X.mg (T' : String) = none) (hv2 : bootBuiltins (T' : String) = some (.type T')) (hg : Gl X "isinstance") (hm : X.mg "isinstance" = none) (he : VE X W e f) (hn : ((T : String) : Str) ≠ "__name__" := by decide) (hd : (((T : String) : Str) == ("__debug__" : Str)) = false := by decide)
    (hn2 : ((T' : String) : Str) ≠ "__name__" := by decide) (hd2 : (((T' : String) : Str) == ("__debug__" : Str)) = false := by decide)
    (hs : starEach (e :: [.Tuple [.Name (T : String) p2, .Name (T' : String) p3] k pt]) X.env = (false, eval e X.env) :: starEach [.Tuple [.Name (T : String) p2, .Name (T' : String) p3] k pt] X.env := by rfl) :
    VE X W (.Call (.Name "isinstance" p) [e, .Tuple [.Name (T : String) p2, .Name (T' : String) p3] k pt] [] pos) (fIsi (fun n => isB T n || isB T' n) (fun _ => none) f) := by
  refine pe_imp (pe_callB call_isiT hg hm (by decide +kernel) (pa_cons he (pa_cons (pe_tup (pa_cons (pe_bltn (v := .ty T) hgT hmT hv rfl hn hd) (pa_cons (pe_bltn (v := .ty T') hgT2 hmT2 hv2 rfl hn2 hd2) pa_nil))) pa_nil) hs) (by decide) (by decide) hs) fun σ H Q hh => ?_
  refine lift_bind hh fun ρ env M H1 u v es1 r q => ⟨by show 0 + 1 + 1 ≤ sizeLine; rw [sizeLine_eq]; decide, fun tp hp => ?_⟩
  obtain ⟨s1, g1, n1⟩ := es1.gs.alloc hp (.tup [.ty T, .ty T'])
  unfold isiR at q
  split at q
  · rename_i n et
    obtain ⟨hn, ty⟩ := tyOf_rep g1 (r.step s1) et
    have k1 := kit_ty (K := X.K) (kit_tys T hT.1 hT.2.1 n hn)
    have k2 := kit_ty (K := X.K) (kit_tys T' hT.2.2.1 hT.2.2.2 n hn)
    refine ⟨u, tp, [.ty T, .ty T'], .type n, [.type T, .type T'], isB T n || isB T' n, rfl, upd_same, .cons (.ty T) (.cons (.ty T') .nil), ty, kitAny_cons k1 (fun e1 => kitAny_cons k2 (fun e2 => ?_) fun e2 => ?_) fun e1 => ?_, q ρ _ _ s1 g1 rfl⟩
    · rw [e1, e2]; exact kitAny_nil
    · rw [e2]; exact Bool.or_true _
    · rw [e1]; rfl
  · exact q.elim
  · exact q.elim

/-! ### functions of plain values -/
def CallK (mg : Mg) (r : List V → Hp → VK → Prop) (φ : List Val → Mem → R Val) : Prop := ∀ (ρ : Rho) (M : Mem) (H : Hp) (us : List V) (vs : List Val) (Q : VK) (E : XK),
  Gs mg ρ M H → RepVs mg ρ M H us vs → Kont mg ρ M H (φ vs M) Q E → r us H Q
variable {r : List V → Hp → VK → Prop} {φ : List Val → Mem → R Val} {bid T : String}
theorem ve_bf (hc : CallR X (.builtin bid) r) (k : CallK (gm X) r φ) (hg : Gl X x) (hm : X.mg x = none) (hv : bootBuiltins x = some (.builtin bid)) (ha : VA X W (e :: es) fs) (hn : x ≠ "__name__" := by decide) (hdb : (x == ("__debug__" : Str)) = false := by decide)
    (he : starEach (e :: es) X.env = (false, eval e X.env) :: starEach es X.env := by rfl) (hpl : (backTo pos (starEach es X.env)).any (·.1) = false := by rfl) : VE X W (.Call (.Name x p) (e :: es) [] pos) (fun e M => rbind (fs e M) φ) :=
  pe_imp (pe_callB hc hg hm hv ha hn hdb he hpl) fun σ H Q hh => lifts_bind hh fun ρ env M H1 us vs es1 r q => k ρ M H1 us vs Q _ es1.gs r q
theorem ve_bt (hc : CallR X (.type T) r) (k : CallK (gm X) r φ) (hg : Gl X x) (hm : X.mg x = none) (hv : bootBuiltins x = some (.type T)) (ha : VA X W (e :: es) fs) (hn : x ≠ "__name__" := by decide) (hdb : (x == ("__debug__" : Str)) = false := by decide)
    (he : starEach (e :: es) X.env = (false, eval e X.env) :: starEach es X.env := by rfl) (hpl : (backTo pos (starEach es X.env)).any (·.1) = false := by rfl) : VE X W (.Call (.Name x p) (e :: es) [] pos) (fun e M => rbind (fs e M) φ) :=
  pe_imp (pe_callTy hc hg hm hv ha hn hdb he hpl) fun σ H Q hh => lifts_bind hh fun ρ env M H1 us vs es1 r q => k ρ M H1 us vs Q _ es1.gs r q
def bLen (vs : List Val) (M : Mem) : R Val := match vs with
  | [v] => (match v with
    | .d (.str z) => if z.length ≤ big then .ok (.d (.int z.length)) M else .bad
    | v => (match rdS M v with
      | some l => .ok (.d (.int l.length)) M
      | none => (match v with
        | .obj _ => (match rdD M v with
          | some l => .ok (.d (.int l.length)) M
          | none => .bad)
        | _ => .bad)))
  | _ => .bad
theorem repP_length {mg : Mg} {S : Addr → Prop} {H : Hp} : ∀ {l : List (Key × D)} {us : List (Key × V)}, RepP mg S H us l → us.length = l.length
  | [], _, h => by cases h; rfl
  | (k, x) :: l, _, h => by
    obtain ⟨u, ws, rfl, _, h2⟩ := h
    simp [repP_length h2]
theorem k_len : CallK (gm X) (fun xs H Q => (∃ p ys, xs = [.ref p] ∧ (SqL X.K H p ys ∨ SqT X.K H p ys) ∧ Q (.int ys.length) H) ∨ (fun xs H Q => (∃ z, xs = [.str z] ∧ z.length ≤ sizeLine ∧ Q (.int z.length) H) ∨ (∃ a kvs, xs = [V.ref a] ∧ H a = some (.dK kvs) ∧ Q (.int kvs.length) H)) xs H Q) bLen :=
  fun ρ M H us vs Q E g r q => by
    unfold bLen at q
    split at q
    · rename_i v
      obtain ⟨u, us', rfl, rv, rfl⟩ := r
      split at q
      · rename_i z
        split at q
        · rename_i hl
          cases rv
          exact .inr (.inl ⟨z, rfl, big_le hl, q ρ _ H .refl g rfl⟩)
        · exact q.elim
      · split at q
        · rename_i l el
          obtain ⟨a, ys, rfl, h, rl⟩ := rdS_rep g rv el
          refine .inl ⟨a, ys, rfl, h, ?_⟩
          rw [RepL.length rl]
          exact q ρ _ H .refl g rfl
        · split at q
          · rename_i k _ _
            split at q
            · rename_i l el
              unfold rdD at el
              dsimp only at el
              split at el
              · rename_i ps ep
                cases el
                obtain ⟨ws, h, rp⟩ := g.at_ k _ ep
                obtain ⟨rfl, _⟩ := rv
                refine .inr (.inr ⟨_, ws, rfl, h, ?_⟩)
                rw [repP_length rp]
                exact q ρ _ H .refl g rfl
              · cases el
            · exact q.elim
          · exact q.elim
    · exact q.elim
theorem ve_len (hg : Gl X "len") (hm : X.mg "len" = none) (ha : VA X W [e] fs) (he : starEach (e :: []) X.env = (false, eval e X.env) :: starEach [] X.env := by rfl) : VE X W (.Call (.Name "len" p) [e] [] pos) (fun e M => rbind (fs e M) bLen) :=
  ve_bf (CallR.or call_len_seq (CallR.or call_len_str call_lenD)) k_len hg hm (by decide +kernel) ha (by decide) (by decide) he
/-- int(i), int(b) -/
def bInt (vs : List Val) (M : Mem) : R Val := match vs with
  | [.d (.int i)] => .ok (.d (.int i)) M
  | [.d (.bl k)] => .ok (.d (.int (if k then 1 else 0))) M
  | _ => .bad
theorem ve_int1 (hg : Gl X "int") (hm : X.mg "int" = none) (ha : VA X W [e] fs) (he : starEach (e :: []) X.env = (false, eval e X.env) :: starEach [] X.env := by rfl) : VE X W (.Call (.Name "int" p) [e] [] pos) (fun e M => rbind (fs e M) bInt) :=
  ve_bt call_int1 (fun ρ M H us vs Q E g r q => by
    unfold bInt at q
    split at q
    · obtain ⟨u, us', rfl, rv, rfl⟩ := r
      cases rv
      exact .inl ⟨_, rfl, q ρ _ H .refl g rfl⟩
    · obtain ⟨u, us', rfl, rv, rfl⟩ := r
      cases rv
      exact .inr ⟨_, rfl, q ρ _ H .refl g rfl⟩
    · exact q.elim) hg hm (by decide +kernel) ha (by decide) (by decide) he
/-- str(i), str(x) -/
def bStr (vs : List Val) (M : Mem) : R Val := match vs with
  | [.d (.int i)] => if i.natAbs.log2 < 1920 then .ok (.d (.str (toString i))) M else .bad
  | [.d (.str x)] => .ok (.d (.str x)) M
  | _ => .bad
theorem ve_str1 (hg : Gl X "str") (hm : X.mg "str" = none) (ha : VA X W [e] fs) (he : starEach (e :: []) X.env = (false, eval e X.env) :: starEach [] X.env := by rfl) : VE X W (.Call (.Name "str" p) [e] [] pos) (fun e M => rbind (fs e M) bStr) :=
  ve_bt (CallR.or call_str_int SkE.call_str_str) (fun ρ M H us vs Q E g r q => by
    unfold bStr at q
    split at q
    · split at q
      · rename_i hl
        obtain ⟨u, us', rfl, rv, rfl⟩ := r
        cases rv
        exact .inl ⟨_, rfl, hl, q ρ _ H .refl g rfl⟩
      · exact q.elim
    · obtain ⟨u, us', rfl, rv, rfl⟩ := r
      cases rv
      exact .inr ⟨_, rfl, q ρ _ H .refl g rfl⟩
    · exact q.elim) hg hm (by decide +kernel) ha (by decide) (by decide) he
/-- list(xs): frozen (fr) or an object of the store -/
def bList (fr : Bool) (vs : List Val) (M : Mem) : R Val := match vs with
  | [v] => (match rdS M v with
    | some l => if fr = true then .ok (.d (.lst l)) M else .ok (.obj M.length) (M ++ [.lst l])
    | none => .bad)
  | _ => .bad
theorem ve_list1 (fr : Bool) (hg : Gl X "list") (hm : X.mg "list" = none) (ha : VA X W [e] fs) (he : starEach (e :: []) X.env = (false, eval e X.env) :: starEach [] X.env := by rfl) : VE X W (.Call (.Name "list" p) [e] [] pos) (fun e M => rbind (fs e M) (bList fr)) :=
  ve_bt call_list_of (fun ρ M H us vs Q E g r q => by
    unfold bList at q
    split at q
    · obtain ⟨u, us', rfl, rv, rfl⟩ := r
      split at q
      · rename_i l el
        obtain ⟨a, ys, rfl, h, rl⟩ := rdS_rep g rv el
        refine ⟨a, ys, rfl, h, ?_⟩
        cases fr with
        | true => exact kont_lst g rl q
        | false => exact kont_obj g rl q
      · exact q.elim
    · exact q.elim) hg hm (by decide +kernel) ha (by decide) (by decide) he
def bTup (vs : List Val) (M : Mem) : R Val := match vs with
  | [v] => (match rdS M v with
    | some l => .ok (.d (.tup l)) M
    | none => .bad)
  | _ => .bad
theorem ve_tup1 (hg : Gl X "tuple") (hm : X.mg "tuple" = none) (ha : VA X W [e] fs) (he : starEach (e :: []) X.env = (false, eval e X.env) :: starEach [] X.env := by rfl) : VE X W (.Call (.Name "tuple" p) [e] [] pos) (fun e M => rbind (fs e M) bTup) :=
  ve_bt call_tuple_of (fun ρ M H us vs Q E g r q => by
    unfold bTup at q
    split at q
    · rename_i v
      obtain ⟨u, us', rfl, rv, rfl⟩ := r
      split at q
      · rename_i l el
        cases ht : rdT v with
        | some l' =>
          have e1 : l' = l := by
            unfold rdS at el
            rw [ht] at el
            exact Option.some.inj el
          subst e1
          obtain ⟨a, ys, rfl, h, rl⟩ := rdT_rep rv ht
          refine ⟨a, ys, rfl, .inr ⟨h, ?_⟩⟩
          unfold rdT at ht
          split at ht
          · cases ht
            exact q ρ _ H .refl g rv
          · cases ht
        | none =>
          obtain ⟨a, ys, rfl, h, rl⟩ := rdL_rep g rv (rdT_none ht el)
          exact ⟨a, ys, rfl, .inl ⟨h, kont_tup g rl q⟩⟩
      · exact q.elim
    · exact q.elim) hg hm (by decide +kernel) ha (by decide) (by decide) he
def bAbs (vs : List Val) (M : Mem) : R Val := match vs with
  | [.d (.int i)] => .ok (.d (.int (if i < 0 then -i else i))) M
  | _ => .bad
theorem ve_abs (hg : Gl X "abs") (hm : X.mg "abs" = none) (ha : VA X W [e] fs) (he : starEach (e :: []) X.env = (false, eval e X.env) :: starEach [] X.env := by rfl) : VE X W (.Call (.Name "abs" p) [e] [] pos) (fun e M => rbind (fs e M) bAbs) :=
  ve_bf call_abs (fun ρ M H us vs Q E g r q => by
    unfold bAbs at q
    split at q
    · obtain ⟨u, us', rfl, rv, rfl⟩ := r
      cases rv
      exact ⟨_, rfl, q ρ _ H .refl g rfl⟩
    · exact q.elim) hg hm (by decide +kernel) ha (by decide) (by decide) he
/-- max(i, j), max(xs), ints -/
def maxL : List Int → Option Int
  | [] => none
  | x :: r => some (r.foldl max x)
def minL : List Int → Option Int
  | [] => none
  | x :: r => some (r.foldl min x)
theorem foldl_max (l : List Int) : ∀ x : Int, x ≤ l.foldl max x ∧ (∀ y ∈ l, y ≤ l.foldl max x) ∧ (l.foldl max x = x ∨ l.foldl max x ∈ l) := by
  induction l with
  | nil => exact fun x => ⟨Int.le_refl _, (fun y hy => nomatch hy), .inl rfl⟩
  | cons a l ih =>
    intro x
    obtain ⟨h1, h2, h3⟩ := ih (max x a)
    rw [List.foldl_cons]
    refine ⟨by omega, fun y hy => ?_, ?_⟩
    · rcases List.mem_cons.mp hy with rfl | hy
      · omega
      · exact h2 y hy
    · rcases h3 with h3 | h3
      · by_cases z : x ≤ a
        · exact .inr (by rw [h3]; simp [show max x a = a by omega])
        · exact .inl (by rw [h3]; omega)
      · exact .inr (List.mem_cons_of_mem _ h3)
theorem foldl_min (l : List Int) : ∀ x : Int, l.foldl min x ≤ x ∧ (∀ y ∈ l, l.foldl min x ≤ y) ∧ (l.foldl min x = x ∨ l.foldl min x ∈ l) := by
  induction l with
  | nil => exact fun x => ⟨Int.le_refl _, (fun y hy => nomatch hy), .inl rfl⟩
  | cons a l ih =>
    intro x
    obtain ⟨h1, h2, h3⟩ := ih (min x a)
    rw [List.foldl_cons]
    refine ⟨by omega, fun y hy => ?_, ?_⟩
    · rcases List.mem_cons.mp hy with rfl | hy
      · omega
      · exact h2 y hy
    · rcases h3 with h3 | h3
      · by_cases z : x ≤ a
        · exact .inl (by rw [h3]; omega)
        · exact .inr (by rw [h3]; simp [show min x a = a by omega])
      · exact .inr (List.mem_cons_of_mem _ h3)
theorem maxL_ok {l : List Int} {m : Int} (h : maxL l = some m) : m ∈ l ∧ ∀ y ∈ l, y ≤ m := by
  cases l with
  | nil => cases h
  | cons x r =>
    cases h
    obtain ⟨h1, h2, h3⟩ := foldl_max r x
    refine ⟨h3.elim (fun e => by rw [e]; exact List.mem_cons_self) fun e => List.mem_cons_of_mem _ e, fun y hy => ?_⟩
    rcases List.mem_cons.mp hy with rfl | hy
    · exact h1
    · exact h2 y hy
theorem minL_ok {l : List Int} {m : Int} (h : minL l = some m) : m ∈ l ∧ ∀ y ∈ l, m ≤ y := by
  cases l with
  | nil => cases h
  | cons x r =>
    cases h
    obtain ⟨h1, h2, h3⟩ := foldl_min r x
    refine ⟨h3.elim (fun e => by rw [e]; exact List.mem_cons_self) fun e => List.mem_cons_of_mem _ e, fun y hy => ?_⟩
    rcases List.mem_cons.mp hy with rfl | hy
    · exact h1
    · exact h2 y hy
def bMax (vs : List Val) (M : Mem) : R Val := match vs with
  | [.d (.int i), .d (.int j)] => .ok (.d (.int (if j > i then j else i))) M
  | [v] => (match rdL M v with
    | some l => (match intsOf l with
      | some ns => (match maxL ns with
        | some m => .ok (.d (.int m)) M
        | none => .bad)
      | none => .bad)
    | none => .bad)
  | _ => .bad
def bMin (vs : List Val) (M : Mem) : R Val := match vs with
  | [.d (.int i), .d (.int j)] => .ok (.d (.int (if j < i then j else i))) M
  | [v] => (match rdL M v with
    | some l => (match intsOf l with
      | some ns => (match minL ns with
        | some m => .ok (.d (.int m)) M
        | none => .bad)
      | none => .bad)
    | none => .bad)
  | _ => .bad
theorem len_pos {l : List Int} {m : Int} (h : m ∈ l) : 0 < l.length := by
  cases l with
  | nil => cases h
  | cons _ _ => simp
theorem ve_max (hc : X.calm = true) (hg : Gl X "max") (hm : X.mg "max" = none) (ha : VA X W (e :: es) fs) (he : starEach (e :: es) X.env = (false, eval e X.env) :: starEach es X.env := by rfl) (hpl : (backTo pos (starEach es X.env)).any (·.1) = false := by rfl) : VE X W (.Call (.Name "max" p) (e :: es) [] pos) (fun e M => rbind (fs e M) bMax) :=
  ve_bf (CallR.or (call_max2 hc) (cr_max hc)) (fun ρ M H us vs Q E g r q => by
    unfold bMax at q
    split at q
    · obtain ⟨u, us', rfl, rv, u2, us2, rfl, rv2, rfl⟩ := r
      cases rv; cases rv2
      exact .inl ⟨_, _, rfl, q ρ _ H .refl g rfl⟩
    · obtain ⟨u, us', rfl, rv, rfl⟩ := r
      split at q
      · rename_i l el
        split at q
        · rename_i ns en
          split at q
          · rename_i m em
            obtain ⟨a, ys, rfl, h, rl⟩ := rdL_rep g rv el
            have e2 := intsOf_rep rl en
            subst e2
            obtain ⟨m1, m2⟩ := maxL_ok em
            refine .inr ⟨a, ns, rfl, h, len_pos m1, fun m' h1 h2 => ?_⟩
            have : m' = m := Int.le_antisymm (m2 m' h1) (h2 m m1)
            subst this
            exact q ρ _ H .refl g rfl
          · exact q.elim
        · exact q.elim
      · exact q.elim
    · exact q.elim) hg hm (by decide +kernel) ha (by decide) (by decide) he hpl
theorem ve_min (hc : X.calm = true) (hg : Gl X "min") (hm : X.mg "min" = none) (ha : VA X W (e :: es) fs) (he : starEach (e :: es) X.env = (false, eval e X.env) :: starEach es X.env := by rfl) (hpl : (backTo pos (starEach es X.env)).any (·.1) = false := by rfl) : VE X W (.Call (.Name "min" p) (e :: es) [] pos) (fun e M => rbind (fs e M) bMin) :=
  ve_bf (CallR.or (call_min2 hc) (cr_min hc)) (fun ρ M H us vs Q E g r q => by
    unfold bMin at q
    split at q
    · obtain ⟨u, us', rfl, rv, u2, us2, rfl, rv2, rfl⟩ := r
      cases rv; cases rv2
      exact .inl ⟨_, _, rfl, q ρ _ H .refl g rfl⟩
    · obtain ⟨u, us', rfl, rv, rfl⟩ := r
      split at q
      · rename_i l el
        split at q
        · rename_i ns en
          split at q
          · rename_i m em
            obtain ⟨a, ys, rfl, h, rl⟩ := rdL_rep g rv el
            have e2 := intsOf_rep rl en
            subst e2
            obtain ⟨m1, m2⟩ := minL_ok em
            refine .inr ⟨a, ns, rfl, h, len_pos m1, fun m' h1 h2 => ?_⟩
            have : m' = m := Int.le_antisymm (h2 m m1) (m2 m' h1)
            subst this
            exact q ρ _ H .refl g rfl
          · exact q.elim
        · exact q.elim
      · exact q.elim
    · exact q.elim) hg hm (by decide +kernel) ha (by decide) (by decide) he hpl
def bSum (vs : List Val) (M : Mem) : R Val := match vs with
  | [v] => (match rdL M v with
    | some l => (match intsOf l with
      | some ns => .ok (.d (.int ns.sum)) M
      | none => .bad)
    | none => .bad)
  | _ => .bad
theorem ve_sum (hc : X.calm = true) (hg : Gl X "sum") (hm : X.mg "sum" = none) (ha : VA X W [e] fs) (he : starEach (e :: []) X.env = (false, eval e X.env) :: starEach [] X.env := by rfl) : VE X W (.Call (.Name "sum" p) [e] [] pos) (fun e M => rbind (fs e M) bSum) :=
  ve_bf (cr_sum hc) (fun ρ M H us vs Q E g r q => by
    unfold bSum at q
    split at q
    · obtain ⟨u, us', rfl, rv, rfl⟩ := r
      split at q
      · rename_i l el
        split at q
        · rename_i ns en
          obtain ⟨a, ys, rfl, h, rl⟩ := rdL_rep g rv el
          have e2 := intsOf_rep rl en
          subst e2
          exact ⟨a, ns, rfl, h, q ρ _ H .refl g rfl⟩
        · exact q.elim
      · exact q.elim
    · exact q.elim) hg hm (by decide +kernel) ha (by decide) (by decide) he
def blsOf : List D → Option (List Bool)
  | [] => some []
  | .bl b :: r => (blsOf r).map (b :: ·)
  | _ :: _ => none
theorem blsOf_rep {mg : Mg} {S : Addr → Prop} {H : Hp} : ∀ {l : List D} {us : List V} {bs : List Bool}, RepL mg S H us l → blsOf l = some bs → us = bs.map V.bl
  | [], _, _, h, e => by cases e; cases h; rfl
  | x :: l, _, bs, h, e => by
    obtain ⟨u, ws, rfl, h1, h2⟩ := h
    cases x <;> try (cases e; done)
    simp only [blsOf, Option.map_eq_some_iff] at e
    obtain ⟨cs, e, rfl⟩ := e
    cases h1
    rw [blsOf_rep h2 e]
    rfl
def bAll (vs : List Val) (M : Mem) : R Val := match vs with
  | [v] => (match rdL M v with
    | some l => (match blsOf l with
      | some ns => .ok (.d (.bl (ns.all id))) M
      | none => .bad)
    | none => .bad)
  | _ => .bad
def bAny (vs : List Val) (M : Mem) : R Val := match vs with
  | [v] => (match rdL M v with
    | some l => (match blsOf l with
      | some ns => .ok (.d (.bl (ns.any id))) M
      | none => .bad)
    | none => .bad)
  | _ => .bad
theorem ve_all (hc : X.calm = true) (hg : Gl X "all") (hm : X.mg "all" = none) (ha : VA X W [e] fs) (he : starEach (e :: []) X.env = (false, eval e X.env) :: starEach [] X.env := by rfl) : VE X W (.Call (.Name "all" p) [e] [] pos) (fun e M => rbind (fs e M) bAll) :=
  ve_bf (cr_all hc) (fun ρ M H us vs Q E g r q => by
    unfold bAll at q
    split at q
    · obtain ⟨u, us', rfl, rv, rfl⟩ := r
      split at q
      · rename_i l el
        split at q
        · rename_i ns en
          obtain ⟨a, ys, rfl, h, rl⟩ := rdL_rep g rv el
          have e2 := blsOf_rep rl en
          subst e2
          exact ⟨a, ns, rfl, h, q ρ _ H .refl g rfl⟩
        · exact q.elim
      · exact q.elim
    · exact q.elim) hg hm (by decide +kernel) ha (by decide) (by decide) he
theorem ve_any (hc : X.calm = true) (hg : Gl X "any") (hm : X.mg "any" = none) (ha : VA X W [e] fs) (he : starEach (e :: []) X.env = (false, eval e X.env) :: starEach [] X.env := by rfl) : VE X W (.Call (.Name "any" p) [e] [] pos) (fun e M => rbind (fs e M) bAny) :=
  ve_bf (cr_any hc) (fun ρ M H us vs Q E g r q => by
    unfold bAny at q
    split at q
    · obtain ⟨u, us', rfl, rv, rfl⟩ := r
      split at q
      · rename_i l el
        split at q
        · rename_i ns en
          obtain ⟨a, ys, rfl, h, rl⟩ := rdL_rep g rv el
          have e2 := blsOf_rep rl en
          subst e2
          exact ⟨a, ns, rfl, h, q ρ _ H .refl g rfl⟩
        · exact q.elim
      · exact q.elim
    · exact q.elim) hg hm (by decide +kernel) ha (by decide) (by decide) he
end
end Vl
set_option Elab.async false
set_option linter.all false
set_option maxRecDepth 100000
set_option maxHeartbeats 1000000
/-! Vx5: != by a class's own ==. -/
namespace Vx
open PySem PySem.Spec PySem.Calls PyProof.Rows PySem.W
theorem slot_one : PySem.Slot "object" "__ne__" "object.__ne__" := .of (owner := "object") (n := "__ne__") (by rw [typeLookup_type, builtinLookup_eq_fast]; kernel_rfl) (by decide +kernel) (by decide +kernel) (by decide +kernel)
  (by first | exact .inl (by decide +kernel) | exact .inr (by decide +kernel)) (by rw [isSubtype_type]; kernel_rfl)
section
variable {prog : Program} {w : World} {A : Around} {E : Value → Shared → Prop} {s : Shared} {K : Frag} {x C f : Addr} {ox : Obj} {od : Option Obj} {b tb : Value}
theorem one_bound {args : List Value} {Q : Option Value → Shared → Prop} (X : K.In s.heap) (I : InstAt s.heap x ox C od) (hs : findIn K (.ref C) "__ne__" = some (some (.builtin "object.__ne__")))
    (h : wpAny (model prog w) A (call (.builtin "object.__ne__") (.ref x :: args)) (fun v => Q (some v)) E s) : wpAny (model prog w) A (callSpecialIfBound? (.ref x) "__ne__" args) Q E s := by
  simp only [callSpecialIfBound?, bindSpecialIfBound?]
  refine wpAny_holding (wpAny_bind (wpAny_bind (wpAny_bind (I.type.here ((looks_findIn X hs).here ?_)))))
  refine wpAny_bind (wpAny_askSetting (wpAny_ite ?_))
  have fin : wpAny (model prog w) A (call (.builtin "object.__ne__") ([.ref x] ++ args) >>= fun v => pure (some v)) Q E s := wpAny_bind (wpAny_mono h (fun v s' h' => wpAny_pure h') fun _ _ h' => h')
  have hbind : Looks (model prog w) s.heap (bindSpecial (.builtin "object.__ne__") (.ref x)) (.builtin "object.__ne__", [.ref x]) := Looks.of_pure (slot_one.bind (.ref x))
  split
  · exact wpAny_bind (hbind.here (wpAny_pure (by exact fin)))
  · exact wpAny_tryCatch (wpAny_bind (hbind.here (wpAny_pure (by exact fin))))
theorem one_call {Q : Value → Shared → Prop} (hu : A.in1.units < cLine) (X : K.In s.heap) (I : InstAt s.heap x ox C od) (ho : mroIn K C (.type "object") = some true) (he : findIn K (.ref C) "__eq__" = some (some (.ref f))) (hf : isFn K (.ref f) = true)
    (h : wpAny (model prog w) A.in1 (call (.ref f) [.ref x, b]) (fun v s' => ∃ c, v = .bool c ∧ Q (.bool (!c)) s') E s) : wpAny (model prog w) A (call (.builtin "object.__ne__") [.ref x, b]) Q E s := by
  have sub : Looks (model prog w) s.heap (isInstance (.ref x) (.type "object")) true := I.type.andThen (looks_mroIn X ho)
  refine wpAny_call (codeAny_call_builtin slot_one.plain F.cmpEntry_ne (@check_slot (model prog w) _ _ s "object.__ne__" "object" "__ne__" (.ref x) [b] [] _ F.cmpKind_ne F.cmpSplit_ne sub (F.cmpArgs_ne (.ref x) b) ?_))
  unfold Builtin.«object.__ne__»
  refine wpAny_bind (wpAny_of_eq (a := ((Value.ref x : Value), [b])) (by first | rfl | (simp only [slotArgs]; rfl)) ?_)
  refine wpAny_bind (wpAny_cRoomFor hu ?_)
  refine wpAny_bind (ifBound_K X I he hf (wpAny_mono h (fun v s' hv => ?_) fun _ _ e => e))
  obtain ⟨c, rfl, q⟩ := hv
  show wpAny _ _ (do let r ← truthy (.bool c); ret (.bool (!r))) _ _ _
  exact wpAny_bind (wpAny_truthy_bool (wpAny_pure q))
theorem ne_K {Q : Value → Shared → Prop} (hu : A.units < cLine) (hu1 : A.in1.units < cLine) (X : K.In s.heap) (I : InstAt s.heap x ox C od) (hb : Looks (model prog w) s.heap (typeOf b) tb) (hn : notFirst K C tb = true) (hs : findIn K (.ref C) "__ne__" = some (some (.builtin "object.__ne__")))
    (ho : mroIn K C (.type "object") = some true) (he : findIn K (.ref C) "__eq__" = some (some (.ref f))) (hf : isFn K (.ref f) = true)
    (h : wpAny (model prog w) A.in1 (call (.ref f) [.ref x, b]) (fun v s' => ∃ c, v = .bool c ∧ Q (.bool (!c)) s') E s) : wpAny (model prog w) A (richCompare .NotEq (.ref x) b) Q E s := by
  have one : wpAny (model prog w) A (tryCompare (.ref x) "__ne__" b) (fun r s' => ∃ v, r = some v ∧ Q v s') E s := by
    unfold tryCompare
    refine wpAny_bind (one_bound X I hs (one_call hu1 X I ho he hf (wpAny_mono h (fun v s' hv => ?_) fun _ _ e => e)))
    obtain ⟨c, rfl, q⟩ := hv
    exact ⟨c, rfl, wpAny_pure ⟨_, rfl, q⟩⟩
  unfold richCompare
  simp only [oneThing_ref]
  refine wpAny_holding (wpAny_bind (wpAny_cRoomFor hu ?_))
  refine wpAny_bind (I.type.here (wpAny_bind (hb.here ?_)))
  split
  · rename_i q
    have e : subIn K tb (.ref C) = some false := by
      rcases Bool.or_eq_true_iff.mp hn with e | e
      · rw [beq_iff_eq.mp e] at q; simp at q
      · exact beq_iff_eq.mp e
    refine wpAny_bind ((looks_subIn X e).here ?_)
    simp only [Bool.false_eq_true, if_false]
    refine wpAny_bind (wpAny_mono one (fun r s' z => ?_) fun _ _ e => e)
    obtain ⟨v, rfl, hq⟩ := z
    exact wpAny_pure hq
  · refine wpAny_bind (wpAny_pure ?_)
    simp only [Bool.false_eq_true, if_false]
    refine wpAny_bind (wpAny_mono one (fun r s' z => ?_) fun _ _ e => e)
    obtain ⟨v, rfl, hq⟩ := z
    exact wpAny_pure hq
end
end Vx
set_option Elab.async false
set_option linter.all false
set_option maxRecDepth 100000
set_option maxHeartbeats 1000000
/-! Vl12: append, stores by subscript, +=, calls of a def held by a name, a class's own == and !=. -/
namespace Vl
open PySem PySem.Spec PyProof.Rows L2 Vx
section
variable {X : Cx} {W : WX} {e e2 o i value : Expr} {es : List Expr} {f g h : EF} {p pos pos' apos : Pos} {x : Str} {fs : En → Mem → R (List Val)} {j k : Nat}

/-! ### xs.append(x) -/
def opAppend (v w : Val) (M : Mem) : R Val := match v, w with
  | .obj k, .d x => (match M[k]? with
    | some (.lst l) => if l.length < big then .ok (.d .non) (M.set k (.lst (l ++ [x]))) else .bad
    | _ => .bad)
  | _, _ => .bad
def isLstO (M : Mem) (v : Val) : Bool := match v with
  | .obj k => (match M[k]? with
    | some (.lst _) => true
    | _ => false)
  | _ => false
def fAppend (f g : EF) : EF := fun e M => rbind (f e M) fun v M1 => if isLstO M1 v = true then rbind (g e M1) fun w M2 => opAppend v w M2 else .bad
theorem ve_append (ho : VE X W o f) (he : VE X W e g) (hbase : attributeBase o "append" X.env (eval o X.env) = eval o X.env := by rfl)
    (hfew : ((backTo pos (starEach [e] X.env)).all (fun x => !x.1) && (backToKw pos (keywordEach [] X.env)).all (fun x => x.1.isSome)
      && decide (([e] : List Expr).length + ([] : List Keyword).length + (if ([] : List Keyword).isEmpty then 0 else 1) < 30)) = true := by rfl)
    (hline : (apos.endLine == pos.line) = true := by rfl) (hs : starEach [e] X.env = (false, eval e X.env) :: starEach [] X.env := by rfl) (hpl : (backTo pos (starEach [] X.env)).any (·.1) = false := by rfl) :
    VE X W (.Call (.Attribute o "append" apos) [e] [] pos) (fAppend f g) := pe_imp (pe_bm PySem.F.plainAttrs_list PySem.F.slot_list_append PySem.F.type_list_append mt_append ho (pa_cons he pa_nil hs) hbase hfew hline hs hpl) fun σ H Q hh => by
  refine lift_bind hh fun ρ env M H1 u v es rv q => ?_
  split at q
  · rename_i hl
    unfold isLstO at hl
    split at hl
    · rename_i k
      split at hl
      · rename_i l el
        obtain ⟨us, h1, _⟩ := es.gs.at_ k _ el
        obtain ⟨rfl, hk⟩ := rv
        refine ⟨.inl ⟨rfl, us, .inl (.inl h1)⟩, ρ, env, M, es, (Kont.bind q).mono (fun u2 H2 ⟨ρ2, M2, w, s2, g2, rw', q2⟩ => ?_) fun _ _ _ z => z⟩
        unfold opAppend at q2
        split at q2
        · rename_i k' x ek
          cases ek
          split at q2
          · rename_i l2 el2
            split at q2
            · rename_i hz
              obtain ⟨ws, h2, rl⟩ := g2.at_ k _ el2
              have lk : Live M2 k := ⟨_, el2, by intro z; cases z⟩
              have st := write_step g2 lk (.lst (ws ++ [u2])) (.lst (l2 ++ [x]))
              refine ⟨ρ2 k, ws, u2, by rw [s2.rho k hk], rfl, h2, by rw [RepL.length rl]; exact big_lt hz, ?_⟩
              exact q2 ρ2 .non _ st (g2.write lk ⟨_, upd_same, RepL.mono st.keep (RepL.append rl ⟨u2, [], rfl, rw', rfl⟩)⟩) rfl
            · exact q2.elim
          · exact q2.elim
        · exact q2.elim
      · cases hl
    · cases hl
  · exact q.elim

/-! ### xs[i] = value -/
def putL (v : Val) (o i : Val) (M : Mem) : Option Mem := match o, i, v with
  | .obj k, .d (.int n), .d x => (match M[k]? with
    | some (.lst l) => (match ixN l.length n with
      | some j => some (M.set k (.lst (l.set j x)))
      | none => none)
    | _ => none)
  | _, _, _ => none
def sSetL (fo fi fv : EF) : SF := fun e M => rO (fv e M) e fun v M1 => rO (fo e M1) e fun o M2 => rO (fi e M2) e fun i M3 => match putL v o i M3 with
  | some M4 => .nx e M4
  | none => .bad
theorem ps_setItem {to ti te : TE} {t : TSet} (hv : PE X value te) (ho : PE X o to) (hi : PE X i ti) (hs : PSet X t) (hsw : swapsWith value (some (.Subscript o i pos')) pos.line X.env = pure false := by rfl) :
    PS X (.Assign [.Subscript o i pos'] value pos) (fun D σ H => te σ H fun v H1 => to σ H1 fun x H2 => ti σ H2 fun y H3 => t x y v H3 fun H4 => D.nx σ H4) := by
  refine ⟨fun pins s σ H D I h0 => ?_⟩
  refine wpAny_Assign_Subscript (thn (hv.run pins s σ H _ I h0) fun r s1 ⟨v, H1, I1, rv, q1⟩ => thn (ho.run pins s1 σ H1 _ I1 q1) fun u s2 ⟨x, H2, I2, rx, q2⟩ => thn (hi.run pins s2 σ H2 _ I2 q2) fun iv s3 ⟨y, H3, I3, ry, q3⟩ => ?_) hsw
  exact thn (hs pins s3 σ H3 x y v u iv r _ I3 rx ry rv q3) fun _ s4 ⟨H4, I4, q4⟩ => ⟨σ, H4, I4, q4⟩
theorem putL_ok {ρ : Rho} {M M' : Mem} {H : Hp} {u y z : V} {v o i : Val} (g : Gs (gm X) ρ M H) (rv : RepV (gm X) ρ M H u v) (ro : RepV (gm X) ρ M H y o) (ri : RepV (gm X) ρ M H z i) (e : putL v o i M = some M') :
    ∃ p xs n j, y = .ref p ∧ z = .int n ∧ H p = some (.lst xs) ∧ ixN xs.length n = some j ∧ Stp ρ M H ρ M' (upd H p (.lst (xs.set j u))) ∧ Gs (gm X) ρ M' (upd H p (.lst (xs.set j u))) := by
  unfold putL at e
  split at e
  · rename_i k n x
    split at e
    · rename_i l el
      split at e
      · rename_i j ej
        cases e
        obtain ⟨us, h1, rl⟩ := g.at_ k _ el
        have lk : Live M k := ⟨_, el, by intro z; cases z⟩
        have st := write_step g lk (.lst (us.set j u)) (.lst (l.set j x))
        exact ⟨_, us, n, j, ro.1, ri, h1, by rw [RepL.length rl]; exact ej, st, g.write lk ⟨_, upd_same, RepL.mono st.keep (RepL.set rv j rl)⟩⟩
      · cases e
    · cases e
  · cases e
theorem vs_setL (hv : VE X W value f) (ho : VE X W o g) (hi : VE X W i h) (hsw : swapsWith value (some (.Subscript o i pos')) pos.line X.env = pure false := by rfl) : VS X W (.Assign [.Subscript o i pos'] value pos) (sSetL g h f) :=
  ps_imp (ps_setItem hv ho hi set_list hsw) fun D σ H hh => by
    refine liftS_bind hh fun ρ env M H1 u v es rv q => ⟨ρ, env, M, es, (Kont.toS es q).mono (fun y H2 ⟨ρ2, M2, o', s2, es2, ro, q2⟩ => ⟨ρ2, env, M2, es2, (Kont.toS es2 q2).mono (fun z H3 ⟨ρ3, M3, i', s3, es3, ri, q3⟩ => ?_) fun _ _ _ z => z⟩) fun _ _ _ z => z⟩
    split at q3
    · rename_i M4 e4
      obtain ⟨p, xs, n, j, rfl, rfl, h1, ej, st, g4⟩ := putL_ok es3.gs (rv.step (s2.trans s3)) (ro.step s3) ri e4
      exact ⟨p, xs, n, j, rfl, rfl, h1, ej, q3 ρ3 σ _ st (es3.step st g4)⟩
    · exact q3.elim

/-! ### name += int, name -= int -/
def sAug (c : Int → Int → Int) (i : Nat) (f : EF) : SF := fun e M => match e[i]? with
  | some (some (.d (.int a))) => rO (f e M) e fun v M1 => (match v with
    | .d (.int b) => .nx (e.set i (some (.d (.int (c a b))))) M1
    | _ => .bad)
  | _ => .bad
theorem sAug_ok {c : Int → Int → Int} {i : Nat} {D : Ends} {σ : L2.St} {H : Hp} (hh : liftS (gm X) W (sAug c i f) D σ H) : ∃ x, σ[i]? = some (some x) ∧ lift (gm X) W f σ H fun y H1 => ∃ a b, x = .int a ∧ y = .int b ∧ D.nx (σ.set i (some (.int (c a b)))) H1 := by
  obtain ⟨ρ, env, M, es, q⟩ := hh
  unfold sAug at q
  split at q
  · rename_i a ea
    obtain ⟨u, eu, ru⟩ := es.sl i _ ea
    cases ru
    refine ⟨_, eu, ρ, env, M, es, (Kont.toS es q).mono (fun y H1 ⟨ρ1, M1, v, s1, es1, rv, q1⟩ => ?_) fun _ _ _ z => z⟩
    split at q1
    · rename_i b
      exact ⟨a, b, rfl, rv, q1 ρ1 _ H1 .refl (es1.set (v := .d (.int (c a b))) (show V.int _ = V.int _ from rfl))⟩
    · exact q1.elim
  · exact q.elim
theorem vs_augAdd (i : Nat) {y : Str} (he : VE X W e f) (hN : X.N.Nodup) (hi : X.N[i]? = some y := by rfl) (hx : Loc X.env.scope y := by first | exact .inl rfl | exact .inr rfl) (hf : X.fn y = true ∨ X.env.scope.names.lookup y = some .local := by first | exact .inl rfl | exact .inr rfl) :
    VS X W (.AugAssign (.Name y pos') .Add e pos) (sAug (fun a b => a + b) i f) := ps_imp (ps_aug hN hi hx he in_add hf) fun D σ H hh => by
  obtain ⟨x, e1, l⟩ := sAug_ok hh
  obtain ⟨ρ, env, M, es, q⟩ := l
  exact ⟨x, e1, ρ, env, M, es, q.mono (fun y H1 ⟨a, b, ea, eb, z⟩ => ⟨a, b, ea, eb, z⟩) fun _ _ _ z => z⟩
theorem vs_augSub (i : Nat) {y : Str} (he : VE X W e f) (hN : X.N.Nodup) (hi : X.N[i]? = some y := by rfl) (hx : Loc X.env.scope y := by first | exact .inl rfl | exact .inr rfl) (hf : X.fn y = true ∨ X.env.scope.names.lookup y = some .local := by first | exact .inl rfl | exact .inr rfl) :
    VS X W (.AugAssign (.Name y pos') .Sub e pos) (sAug (fun a b => a - b) i f) := ps_imp (ps_aug hN hi hx he in_sub hf) fun D σ H hh => by
  obtain ⟨x, e1, l⟩ := sAug_ok hh
  obtain ⟨ρ, env, M, es, q⟩ := l
  exact ⟨x, e1, ρ, env, M, es, q.mono (fun y H1 ⟨a, b, ea, eb, z⟩ => ⟨a, b, ea, eb, z⟩) fun _ _ _ z => z⟩

/-! ### a def held by a name -/
abbrev Tab := List (Str × (List Val → Mem → R Val))
def tabOf (T : Tab) (x : Str) : Option (List Val → Mem → R Val) := T.lookup x
def fCallL (i : Nat) (T : Tab) (fs : En → Mem → R (List Val)) : EF := fun e M => match e[i]? with
  | some (some (.d (.glo x))) => (match tabOf T x with
    | some φ => rbind (fs e M) φ
    | none => .bad)
  | _ => .bad
theorem ve_callL (i : Nat) {T : Tab} {y : Str} (cc : ∀ x φ, tabOf T x = some φ → FCal X.prog X.w X.K X.mg X.base j x φ) (hr : Room k X.A) (hk : j ≤ k) (tk : L2N.Takes X W) (ha : VA X W (e :: es) fs) (hN : X.N[i]? = some y := by rfl) (hv : Vis X.env.scope y := by first | exact Or.inl rfl | exact Or.inr (Or.inl rfl) | exact Or.inr (Or.inr rfl))
    (hdb : (y == ("__debug__" : Str)) = false := by decide) (hcd : (y == ("__classdict__" : Str)) = false := by decide) (he : starEach (e :: es) X.env = (false, eval e X.env) :: starEach es X.env := by rfl) (hpl : (backTo pos (starEach es X.env)).any (·.1) = false := by rfl) :
    VE X W (.Call (.Name y p) (e :: es) [] pos) (fCallL i T fs) := by
  refine ⟨fun pins s σ H Q I hh => ?_⟩
  obtain ⟨ρ, env, M, es1, q⟩ := hh
  unfold fCallL at q
  split at q
  · rename_i x ex
    split at q
    · rename_i φ eφ
      obtain ⟨fa, fd, ps, F, hm, kp, hb⟩ := (cc x φ eφ).ex
      replace F : FnOk X.prog X.w X.K X.mg X.base (L2N.CX X.prog X.w) j fa fd ps (spF (gm X) φ) := by rw [gm_calm hr.hd]; exact F
      obtain ⟨u, eu, w0, hw, rw0⟩ := es1.sl i _ ex
      have ew : w0 = .ref fa := by
        have z : X.mg x = some w0 := hw
        rw [hm] at z
        exact (Option.some.inj z).symm
      subst ew
      have eu2 : u = .ref fa := by
        cases u <;> first | (cases rw0; done) | (obtain ⟨_, z⟩ := rw0; cases z) | skip
        cases rw0; rfl
      subst eu2
      refine wpAny_Call_Name_kw (thn ((pe_var (pos := p) hN hv hdb hcd).run pins s σ H (fun v H1 => v = .ref fa ∧ H1 = H) I ⟨.ref fa, eu, rfl, rfl⟩) fun u s1 ⟨v, H1, I1, r1, q1⟩ => ?_)
      obtain ⟨rfl, rfl⟩ := q1
      cases r1
      have h2 : lifts (gm X) W fs σ H1 (fun vs H2 => spF (gm X) φ vs H2 Q (fun c d H' => W c d σ H')) := ⟨ρ, env, M, es1, (Konts.bind q).mono (fun us H2 ⟨ρ2, M2, ws, s2, g2, r2, q2⟩ => ⟨ρ2, M2, ws, g2, r2, q2⟩) fun _ _ _ z => z⟩
      refine PySem.W.callWith_K (h₀ := X.base) I.ok.mod.kin kp (thn (ha.run pos pins s1 σ _ _ I1 h2) fun us s2 ⟨vs, H2, I2, r, q⟩ => ⟨I2.kIn, ?_⟩) he hpl
      exact run_cal F hr hk hb tk I2 r q
    · exact q.elim
  · exact q.elim

/-! ### own == -/
/-- the class cn has its own ==, that keeps φ -/
structure EqCal (P : Program) (w : World) (K : PySem.W.Frag) (mg : Str → Option Value) (base : Heap) (k : Nat) (cn : Str) (φ : List Val → Mem → R Val) : Prop where
  ex : ∃ C f fd ps, FnV P w K mg base k f fd ps φ ∧ mg cn = some (.ref C) ∧ IsCls K C ∧ PySem.W.findIn K (.ref C) "__eq__" = some (some (.ref f)) ∧ PySem.W.isFn K (.ref f) = true ∧ PySem.W.findIn K (.ref C) "__ne__" = some (some (.builtin "object.__ne__")) ∧
    Binds K fd ps [] ∧ ∀ n ∈ tys, PySem.W.subIn K (.type n) (.ref C) = some false
def tyIs (t : Ty) (cn : Str) : Bool := match t with
  | .b _ => true
  | .c c => c == cn
def opOwn (neg : Bool) (cn : Str) (φ : List Val → Mem → R Val) (v w : Val) (M : Mem) : R Val := match insOf M v with
  | some (C, _) => (match tyOf M w with
    | some t => if C = cn ∧ tyIs t cn = true then (match φ [v, w] M with
      | .ok (.d (.bl b)) M1 => .ok (.d (.bl (if neg = true then !b else b))) M1
      | _ => .bad) else .bad
    | none => .bad)
  | none => .bad
def rOwn (X : Cx) (neg : Bool) (cn : Str) (φ : List Val → Mem → R Val) : R2 := fun x y H Q => ∃ a dx us C tb, x = .ref a ∧ H a = some (.ins C dx us) ∧ X.mg cn = some (.ref C) ∧ TyX X.K H y tb ∧ PySem.W.notFirst X.K C tb = true ∧
  spF (gm X) φ [x, y] H (fun u H1 => ∃ b, u = .bl b ∧ Q (.bl (if neg = true then !b else b)) H1) (fun _ _ _ => False)
section
variable {cn : Str} {φ : List Val → Mem → R Val}
theorem k_own (neg : Bool) (cc : EqCal X.prog X.w X.K X.mg X.base j cn φ) : OpK (gm X) (opOwn neg cn φ) (rOwn X neg cn φ) := fun ρ M H x y v w Q E g rx ry q => by
  obtain ⟨C, fa, fd, ps, F, hm, ic, hs, hf, hne, hb, hsub⟩ := cc.ex
  unfold opOwn at q
  split at q
  · rename_i C0 gs ei
    split at q
    · rename_i t et
      split at q
      · rename_i hc
        obtain ⟨rfl, ht⟩ := hc
        obtain ⟨a, C', dx, us, rfl, h, mc, _⟩ := insOf_rep g rx ei
        have : C' = C := by
          have z : X.mg C0 = some (.ref C') := mc
          rw [hm] at z; cases z; rfl
        subst this
        have ty := tyOf_rep g ry et
        have key : ∃ tb, TyX X.K H y tb ∧ PySem.W.notFirst X.K C' tb = true := by
          cases t with
          | b n =>
            obtain ⟨hn, ty⟩ := ty
            refine ⟨_, ty, ?_⟩
            unfold PySem.W.notFirst
            rw [hsub n hn]
            simp
          | c c =>
            have ec : c = C0 := by simpa [tyIs] using ht
            subst ec
            obtain ⟨Cy, my, ty⟩ := ty
            have : Cy = C' := by
              have z : X.mg c = some (.ref Cy) := my
              rw [hm] at z; cases z; rfl
            subst this
            exact ⟨_, ty ic, by unfold PySem.W.notFirst; simp⟩
        obtain ⟨tb, ty2, hn⟩ := key
        refine ⟨a, dx, us, C', tb, rfl, h, hm, ty2, hn, ρ, M, [v, w], g, ⟨_, _, rfl, rx, _, _, rfl, ry, rfl⟩, ?_⟩
        split at q
        · rename_i b M1 eφ
          rw [eφ]
          intro ρ1 u H1 s1 g1 r1
          exact ⟨b, r1, q ρ1 _ H1 s1 g1 rfl⟩
        · exact q.elim
      · exact q.elim
    · exact q.elim
  · exact q.elim
theorem run_in1 {fa : Addr} {fd : FuncData} {ps : List Str} {sp : Sp} {pins : List (Addr × Obj)} {σ : L2.St} {H : Hp} {s : Shared} {Q : VK} {us : List Value} {vs : List V} {A : Around} (F : FnOk X.prog X.w X.K X.mg X.base (L2N.CX X.prog X.w) j fa fd ps sp) (hr : Room k A) (hA : A.frames = X.A.frames) (hk : j ≤ k) (hb : Binds X.K fd ps [])
    (I : Inv X pins σ H s) (r : Vals vs us) (hh : sp vs H Q (fun _ _ _ => False)) : wpAny (model X.prog X.w) A (call (.ref fa) us) (EP X pins σ Q) X.xe s := by
  have hl : (us ++ []).length = ps.length := by rw [List.append_nil, ← r.length]; exact F.len _ _ _ _ hh
  have hb1 := hb s us I.kIn hl
  rw [List.append_nil] at hb1
  have e0 : Env0 X.prog X.w X.K X.mg X.base A X.stack s H := by
    have e := I.env0
    exact ⟨by rw [hA]; exact e.frames, e.mod, e.bs, e.bsz, e.funs, e.frf, e.hok, e.bare⟩
  refine wpAny_call (codeAny_mono (F.run A X.stack s H ⟨us, []⟩ us vs Q _ (hr.mono hk) e0 hb1 r hh) fun rr s' hq => ?_)
  cases rr with
  | error e1 =>
    have z := L2N.XE.of_call (W := W0) I (fun _ _ _ z => z) hq
    exact absurd z (fun ⟨_, _, _, _, _, _, _, _, _, _, _, _, _, _, _, _, w⟩ => w)
  | ok fl =>
    cases fl with
    | ret u => exact I.after hq
    | next => exact False.elim hq
    | brk => exact False.elim hq
    | cont => exact False.elim hq
theorem op_ownEq (cc : EqCal X.prog X.w X.K X.mg X.base j cn φ) (hr : Room k X.A) (hk : j ≤ k) : OpR X (compareOp .Eq) (rOwn X false cn φ) := by
  intro pins s σ H x y v u Q I rx ry hh
  obtain ⟨C, fa, fd, ps, F, hm, ic, hs, hf, hne, hb, hsub⟩ := cc.ex
  obtain ⟨a, dx, us, C', tb, rfl, ha, hm', ty, hn, sp⟩ := hh
  have : C' = C := by rw [hm] at hm'; cases hm'; rfl
  subst this
  replace F : FnOk X.prog X.w X.K X.mg X.base (L2N.CX X.prog X.w) j fa fd ps (spF (gm X) φ) := by rw [gm_calm hr.hd]; exact F
  obtain rfl : v = Value.ref a := rx
  obtain ⟨P, Z, p, hx⟩ := kit_of I ry ty
  obtain ⟨mA, J, _⟩ := ins_get I.hok ha
  obtain ⟨od, J, _⟩ := J.look
  obtain ⟨m, hF⟩ := I.fr
  refine PySem.W.cmp_ofEq (PySem.W.cmp_K (op := .Eq) (tb := tb) hr.units0 hF I.ok.mod.kin J (Z.ty _ _ I.kIn p) hn hs hf ?_)
  refine wpAny_mono (run_in1 F hr rfl hk hb I (.cons (show L2.RelV (V.ref a) (Value.ref a) from rfl) (.cons ry .nil)) sp) (fun r s' hq => ?_) fun _ _ e => e
  obtain ⟨z, H', I', rz, b, ez, q⟩ := hq
  subst ez
  cases rz
  exact ⟨.bl b, H', I', rfl, q⟩
theorem op_ownNe (cc : EqCal X.prog X.w X.K X.mg X.base j cn φ) (hr : Room k X.A) (hk : j + 1 ≤ k) : OpR X (compareOp .NotEq) (rOwn X true cn φ) := by
  intro pins s σ H x y v u Q I rx ry hh
  obtain ⟨C, fa, fd, ps, F, hm, ic, hs, hf, hne, hb, hsub⟩ := cc.ex
  obtain ⟨a, dx, us, C', tb, rfl, ha, hm', ty, hn, sp⟩ := hh
  have : C' = C := by rw [hm] at hm'; cases hm'; rfl
  subst this
  replace F : FnOk X.prog X.w X.K X.mg X.base (L2N.CX X.prog X.w) j fa fd ps (spF (gm X) φ) := by rw [gm_calm hr.hd]; exact F
  obtain rfl : v = Value.ref a := rx
  obtain ⟨P, Z, p, hx⟩ := kit_of I ry ty
  obtain ⟨mA, J, _⟩ := ins_get I.hok ha
  obtain ⟨od, J, _⟩ := J.look
  have hr1 : Room j X.A.in1 := (hr.mono hk).in1
  refine PySem.W.cmp_ofNotEq (ne_K hr.units0 hr1.units0 I.kIn J (Z.ty _ _ I.kIn p) hn hne ic.hm hs hf ?_)
  refine wpAny_mono (run_in1 F hr1 rfl (Nat.le_refl _) hb I (.cons (show L2.RelV (V.ref a) (Value.ref a) from rfl) (.cons ry .nil)) sp) (fun r s' hq => ?_) fun _ _ e => e
  obtain ⟨z, H', I', rz, b, ez, q⟩ := hq
  subst ez
  cases rz
  exact ⟨b, rfl, .bl (!b), H', I', rfl, q⟩
theorem vc_eqOwn (cc : EqCal X.prog X.w X.K X.mg X.base j cn φ) (hr : Room k X.A) (hk : j ≤ k) (ha : VE X W e f) (hb : VE X W e2 g) : VC X W .Eq e e2 (fOp (opOwn false cn φ) f g) := vc_op (op_ownEq cc hr hk) (k_own false cc) ha hb
theorem vc_neOwn (cc : EqCal X.prog X.w X.K X.mg X.base j cn φ) (hr : Room k X.A) (hk : j + 1 ≤ k) (ha : VE X W e f) (hb : VE X W e2 g) : VC X W .NotEq e e2 (fOp (opOwn true cn φ) f g) := vc_op (op_ownNe cc hr hk) (k_own true cc) ha hb
end
end
end Vl
set_option Elab.async false
set_option linter.all false
set_option maxRecDepth 100000
set_option maxHeartbeats 1000000
/-! Vl13: what a printed derivation leans on: names of the module, defs as functions, comprehension blocks, pairs of names. -/
namespace Vl
open PySem PySem.Spec PyProof.Rows L2 Vx

/-! ### a def by its body -/
noncomputable def phi (n m : Nat) (F : SF) (ws : List Val) (M : Mem) : R Val := if ws.length = m then callF n F ws M else .bad
section
variable {P : Program} {w : World} {K : PySem.W.Frag} {mg : Str → Option Value} {base : Heap}
abbrev BodyOk (P : Program) (w : World) (K : PySem.W.Frag) (mg : Str → Option Value) (base : Heap) (N : List Str) (qual : Str) (scope : Scope) (body : List Stmt) (k : Nat) (F : SF) : Prop := ∀ (f : Addr) (cdv : Value) (A : Around) (outer : List Env) (s : Shared) (H : Hp) (E : XK), Room k (A.deeper (envOfC qual scope s.heap.objs.size f cdv)) →
  L2N.Takes (cxOf (L2N.CX P w) P w K mg base N qual scope f cdv A outer s H E) (fun c d _ H' => E c d H') → PassesOwn (model P w) (cxOf (L2N.CX P w) P w K mg base N qual scope f cdv A outer s H E).A (cxOf (L2N.CX P w) P w K mg base N qual scope f cdv A outer s H E).env (cxOf (L2N.CX P w) P w K mg base N qual scope f cdv A outer s H E).xe →
  VSs (cxOf (L2N.CX P w) P w K mg base N qual scope f cdv A outer s H E) (fun c d _ H' => E c d H') body F
theorem fnV_D {x qual : Str} {params : Arguments} {body : List Stmt} {scope : Scope} {f : Addr} {fd : FuncData} {kws : List (Str × V)} {N ps : List Str} {k : Nat} {F : SF} (D : FunD K x qual params body scope [] kws f fd) (S : FnScope N ps scope) (hb : BodyOk P w K mg base N qual scope body k F) :
    FnV P w K mg base (k + 1) f fd ps (phi N.length ps.length F) := by
  obtain ⟨oc, od, dV, kV, doc, pm, an, cdv, ct, osl, rfl, lk, hcd, _, _⟩ := D.ex
  refine fnV_of lk hcd S (fun A outer s H E hr tk hp => hb f cdv A outer s H E hr tk hp) fun ws M h => ?_
  unfold phi at h ⊢
  by_cases z : ws.length = ps.length
  · exact ⟨z, by rw [if_pos z]⟩
  · rw [if_neg z] at h
    exact absurd rfl h
theorem fcal_D {x qual : Str} {params : Arguments} {body : List Stmt} {scope : Scope} {f : Addr} {kws : List (Str × V)} {N ps : List Str} {k : Nat} {F : SF} (D : ∃ fd, FunD K x qual params body scope [] kws f fd) (hm : mg x = some (.ref f)) (S : FnScope N ps scope) (hb : BodyOk P w K mg base N qual scope body k F)
    (hbind : ∀ (_ _ _ _ : Value) (_ : Option Addr) (_ _ : Value) (us : List Value), us.length = ps.length → True) (bn : ∀ fd, FunD K x qual params body scope [] kws f fd → Binds K fd ps []) : FCal P w K mg base (k + 1) x (phi N.length ps.length F) := by
  obtain ⟨fd, D⟩ := D
  exact ⟨f, fd, ps, fnV_D D S hb, hm, D.kp, bn fd D⟩
end

/-! ### names of the module -/
section
variable {X : Cx} {W : WX} {x : Str} {pos : Pos}
theorem ve_gi {i : Int} (hm : ∃ t, X.mg x = some (.int i t)) (hg : Gl X x := by rfl) (hd : (x == ("__debug__" : Str)) = false := by decide) : VE X W (.Name x pos) (fC (.int i)) := by
  obtain ⟨t, hm⟩ := hm
  exact ve_gint hg hm ⟨t, rfl⟩ hd
theorem ve_gs {z : Str} (hm : ∃ t, X.mg x = some (.str z t)) (hg : Gl X x := by rfl) (hd : (x == ("__debug__" : Str)) = false := by decide) : VE X W (.Name x pos) (fC (.str z)) := by
  obtain ⟨t, hm⟩ := hm
  exact ve_gstr hg hm ⟨t, rfl⟩ hd
theorem ve_gf (hm : ∃ a, X.mg x = some (.ref a)) (hg : Gl X x := by rfl) (hd : (x == ("__debug__" : Str)) = false := by decide) : VE X W (.Name x pos) (fC (.glo x)) := by
  obtain ⟨a, hm⟩ := hm
  exact ve_glo hg hm hd
end

/-! ### comprehension blocks -/
def blkB (N : List Str) (sc scope : Scope) (own : List (Str × Nat)) : Bool := decide (scope.kind = .function) && (scope.names.all (fun y => decide (scope.names.lookup y.1 = some y.2)) && (own.all (fun p => decide (N[p.2]? = some p.1)) &&
  (scope.names.all (fun y => !decide (y.2 = .free) || (decide (sc.names.lookup y.1 = some .cell) || decide (sc.names.lookup y.1 = some .free))) && scope.names.all (fun y => !(decide (y.2 = .local) || decide (y.2 = .cell)) || ((own.map (·.1)).contains y.1 || !N.contains y.1)))))
theorem blk_of {N : List Str} {sc scope : Scope} {own : List (Str × Nat)} (h : blkB N sc scope own = true) : BlkOk N sc scope own := by
  unfold blkB at h
  obtain ⟨h1, h⟩ := Bool.and_eq_true_iff.mp h
  obtain ⟨h2, h⟩ := Bool.and_eq_true_iff.mp h
  obtain ⟨h3, h⟩ := Bool.and_eq_true_iff.mp h
  obtain ⟨h4, h5⟩ := Bool.and_eq_true_iff.mp h
  refine ⟨of_decide_eq_true h1, fun y hy => of_decide_eq_true (List.all_eq_true.mp h2 y hy), fun p hp => of_decide_eq_true (List.all_eq_true.mp h3 p hp), fun y hy e => ?_, fun y hy e => ?_⟩
  · have := List.all_eq_true.mp h4 y hy
    simp only [e, decide_true, Bool.not_true, Bool.false_or, Bool.or_eq_true, decide_eq_true_eq] at this
    exact this
  · have z := List.all_eq_true.mp h5 y hy
    have hz : (decide (y.2 = .local) || decide (y.2 = .cell)) = true := by
      rcases e with e | e <;> rw [e] <;> rfl
    rw [hz] at z
    simp only [Bool.not_true, Bool.false_or, Bool.or_eq_true, Bool.not_eq_true'] at z
    rcases z with z | z
    · exact .inl (by simpa using z)
    · exact .inr (by simpa using z)
def ndB (N : List Str) : Bool := decide N.Nodup

/-! ### a, b = x, y -/
section
variable {X : Cx} {W : WX} {a b c : Expr} {pos : Pos} {x y z : Str} {px py pz pt : Pos} {kt k2 : Nat} {pt2 : Pos} {fs : En → Mem → R (List Val)}
theorem vs_par3 (i j l : Nat) (ha : VA X W [a, b, c] fs) (hc : X.calm = true) (hN : X.N.Nodup) (hi : X.N[i]? = some x := by rfl) (hj : X.N[j]? = some y := by rfl) (hl : X.N[l]? = some z := by rfl) (hij : i ≠ j := by decide) (hil : i ≠ l := by decide) (hjl : j ≠ l := by decide)
    (hx : X.env.scope.names.lookup x = some .local := by rfl) (hy : X.env.scope.names.lookup y = some .local := by rfl) (hz : X.env.scope.names.lookup z = some .local := by rfl)
    (hw : swappedStores [.Tuple [.Name x px, .Name y py, .Name z pz] kt pt] (.Tuple [a, b, c] k2 pt2) X.env = pure (some [x, y, z]) := by rfl)
    (hs : swapsWithSole [.Tuple [.Name x px, .Name y py, .Name z pz] kt pt] (.Tuple [a, b, c] k2 pt2) pos.line X.env = pure false := by rfl) :
    VS X W (.Assign [.Tuple [.Name x px, .Name y py, .Name z pz] kt pt] (.Tuple [a, b, c] k2 pt2) pos) (sPar3 i j l fs) := ps_imp (ps_par3 hc hN hi hj hl hij hil hjl hx hy hz ha hw hs) fun D σ H ⟨ρ, env, M, es, h⟩ => by
  refine ⟨ρ, env, M, es, (Konts.toS es h).mono (fun u H1 ⟨ρ1, M1, v, s1, es1, r, q⟩ => ?_) fun _ _ _ z => z⟩
  split at q
  · rename_i v w z
    obtain ⟨u1, r1, rfl, h1, u2, r2, rfl, h2, u3, r3, rfl, h3, e3⟩ := r
    cases e3
    exact ⟨u1, u2, u3, rfl, q ρ1 _ H1 .refl (((es1.set h1).set h2).set h3)⟩
  · exact q.elim
/-- .. where a name is held by a cell: the pair is laid, then taken apart -/
theorem vs_parC (i j : Nat) (ha : VA X W [a, b] fs) (hc : X.calm = true) (hN : X.N.Nodup) (hi : X.N[i]? = some x := by rfl) (hj : X.N[j]? = some y := by rfl)
    (hx : Loc X.env.scope x := by first | exact .inl rfl | exact .inr rfl) (hy : Loc X.env.scope y := by first | exact .inl rfl | exact .inr rfl) (hf : X.fn x = true ∨ X.env.scope.names.lookup x = some .local := by first | exact .inl rfl | exact .inr rfl) (hf2 : X.fn y = true ∨ X.env.scope.names.lookup y = some .local := by first | exact .inl rfl | exact .inr rfl)
    (hw : swappedStores [.Tuple [.Name x px, .Name y py] kt pt] (.Tuple [a, b] k2 pt2) X.env = pure none := by rfl)
    (hs : swapsWithSole [.Tuple [.Name x px, .Name y py] kt pt] (.Tuple [a, b] k2 pt2) pos.line X.env = pure false := by rfl) :
    VS X W (.Assign [.Tuple [.Name x px, .Name y py] kt pt] (.Tuple [a, b] k2 pt2) pos) (sPar i j fs) :=
  ps_imp (ps_asg (pe_tup ha) (pg_tup hc (pgs_cons (pg_name hN hi hx hf) (pgs_cons (pg_name hN hj hy hf2) pgs_nil)) rfl rfl) hs hw) fun D σ H ⟨ρ, env, M, es, h⟩ => by
    refine ⟨ρ, env, M, es, (Konts.toS es h).mono (fun u H1 ⟨ρ1, M1, v, s1, es1, r, q⟩ => ?_) fun _ _ _ z => z⟩
    split at q
    · rename_i v w
      obtain ⟨u1, r1, rfl, h1, u2, r2, rfl, h2, e2⟩ := r
      cases e2
      refine ⟨by rw [sizeLine_eq]; show _ + 1 ≤ 16777216; simp, fun p hp => ?_⟩
      obtain ⟨s2, g2, n2⟩ := es1.gs.alloc hp (.tup [u1, u2])
      have es2 := es1.step s2 g2
      refine ⟨p, [u1, u2], rfl, .inl (.inl upd_same), rfl, u1, [u2], rfl, u2, [], rfl, rfl, ?_⟩
      exact q ρ1 _ _ s2 ((es2.set (h1.step s2)).set (h2.step s2))
    · exact q.elim
end
end Vl
set_option Elab.async false
set_option linter.all false
set_option maxRecDepth 100000
set_option maxHeartbeats 1000000
/-! Vl14: the head's facts: defs, classes, own exceptions with their __init__. -/
namespace Vl
open PySem PySem.Spec PyProof.Rows L2 Vx He

/-! ### an exception's __init__ -/
abbrev FnY : Type := Option (Str × Str × Arguments × FuncBody × Scope × Addr × List Str × Addr)
def fnY (K : PySem.W.Frag) (p : Str × Option Str) : FnY := match K.lookup (fAd K p) with
  | some ⟨_, _, .func fd, _⟩ => some (fd.name, fd.qualname, fd.params, fd.body, fd.scope, fd.globals, fd.closure.map (·.1), fd.builtins)
  | _ => none
structure XDef where
  cn : Str
  qual : Str
  params : Arguments
  body : List Stmt
  scope : Scope
def XDef.at_ (d : XDef) : Str × Option Str := (d.cn, some "__init__")
def XDef.val (d : XDef) : FnY := some ("__init__", d.qual, d.params, .stmts d.body, d.scope, mainGlobals, ["__class__"], builtinsNs)
def clsOfCell (K : PySem.W.Frag) (fd : FuncData) (C : Addr) : Bool := match fd.closure with
  | [(_, cc)] => (match K.lookup cc with
    | some ⟨_, _, .cell (some (.ref C')), _⟩ => decide (C' = C)
    | _ => false)
  | _ => false
def fileOf (K : PySem.W.Frag) (fd : FuncData) (file : Str) : Bool := match fd.code with
  | .ref cda => (match K.lookup cda with
    | some ⟨_, _, .fields vs, _⟩ => (match (vs[2]? : Option Value) with
      | some (Value.str f _) => decide (f = file)
      | _ => false)
    | _ => false)
  | _ => false
def XDef.ok (K : PySem.W.Frag) (file : Str) (d : XDef) : Bool := xclsB K (ga K d.cn) && (decide (PySem.W.findIn K (.ref (ga K d.cn)) "__init__" = some (some (.ref (fAd K d.at_)))) && (decide (PySem.W.typeIn K (.ref (fAd K d.at_)) = some (.type "function")) &&
  (match K.lookup (fAd K d.at_) with
  | some ⟨_, _, .func fd, _⟩ => decide (fd.defaults = .none) && (PySem.W.codeIn K fd.code d.qual && (clsOfCell K fd (ga K d.cn) && fileOf K fd file))
  | _ => false)))
theorem XDef.ini {K : PySem.W.Frag} {file : Str} {d : XDef} (e : fnY K d.at_ = d.val) (c : d.ok K file = true) : XCls K (ga K d.cn) ∧ XIni K file (ga K d.cn) (fAd K d.at_) "__init__" d.qual d.params d.body d.scope := by
  obtain ⟨c1, c⟩ := ba2 c
  obtain ⟨c2, c⟩ := ba2 c
  obtain ⟨c3, c⟩ := ba2 c
  refine ⟨xclsB_ok c1, ?_, of_decide_eq_true c2, of_decide_eq_true c3⟩
  unfold fnY at e
  cases q : K.lookup (fAd K d.at_) with
  | none => rw [q] at c; cases c
  | some o =>
    obtain ⟨oc, od, dt, osl⟩ := o
    rw [q] at c e
    cases dt with
    | func fd =>
      obtain ⟨n1, n2, n3, n4, n5, n6, n7, n8, n9, n10, n11, n12, n13, n14, n15⟩ := fd
      have e2 : (some (n1, n2, n3, n4, n5, n6, n7.map (·.1), n15) : FnY) = (some (("__init__" : Str), d.qual, d.params, FuncBody.stmts d.body, d.scope, mainGlobals, [("__class__" : Str)], builtinsNs) : FnY) := e
      simp only [Option.some.injEq, Prod.mk.injEq] at e2
      obtain ⟨h1, h2, h3, h4, h5, h6, h7, h8⟩ := e2
      subst h1 h2 h3 h4 h5 h6 h8
      dsimp only at c
      obtain ⟨k1, c⟩ := ba2 c
      obtain ⟨k2, c⟩ := ba2 c
      obtain ⟨k3, k4⟩ := ba2 c
      have k1 := of_decide_eq_true k1
      subst k1
      have hcl : ∃ cc, n7 = [(("__class__" : Str), cc)] := by
        cases n7 with
        | nil => simp at h7
        | cons p r =>
          obtain ⟨a, b⟩ := p
          cases r with
          | nil => simp at h7; subst h7; exact ⟨b, rfl⟩
          | cons _ _ => simp at h7
      obtain ⟨cc, rfl⟩ := hcl
      obtain ⟨cda, e13⟩ : ∃ cda, n13 = .ref cda := by
        cases n13 with
        | ref cda => exact ⟨cda, rfl⟩
        | _ => cases k2
      subst e13
      unfold clsOfCell at k3
      dsimp only at k3
      unfold fileOf at k4
      dsimp only at k4
      split at k3
      · rename_i ccl ccd C' ccs hcc
        have k3 := of_decide_eq_true k3
        subst k3
        split at k4
        · rename_i c1' c2' vs c4' hcda
          split at k4
          · rename_i f tf hvs
            have k4 := of_decide_eq_true k4
            subst k4
            exact ⟨oc, od, osl, n9, n10, n11, n12, cda, n14, cc, vs, tf, c1', ccl, c2', ccd, c4', ccs, rfl, k2, hcda, hvs, hcc⟩
          · cases k4
        · cases k4
      · cases k3
    | _ => cases c
/-! ### the Hook -/
def asV (g : Addr → Option Obj) (n : Nat) : List Addr := cStatics :: asD g n
structure Hd where
  fa : List Fa
  fn : List DefD
  xs : List XDef
  ex : PySem.W.Frag → Bool
  file : Str
abbrev AlV : Type := AlD × (List FnY × Bool)
def obsV (d : Hd) (K : PySem.W.Frag) : AlV := (obsD d.fa d.fn K, (d.xs.map fun x => fnY K x.at_, d.ex K && d.xs.all fun x => x.ok K d.file))
def valV (d : Hd) : AlV := (valD d.fn, (d.xs.map XDef.val, true))
def SaysV (d : Hd) (K : PySem.W.Frag) : Prop := obsV d K = valV d
def obsVG (n : Nat) (d : Hd) (g : Addr → Option Obj) : AlV := obsV d (frG g (asV g n))
def hookV (n : Nat) (d : Hd) : PySem.W.Hook where
  α := AlV
  obs := fun s => obsVG n d s.heap.get?
  val := fun _ => valV d
  says := fun _ h => ∃ K : PySem.W.Frag, K.In h ∧ SaysV d K
  of := fun _ _ e => ⟨_, frG_in, e⟩
  keeps := fun _ _ _ ⟨K, hK, c⟩ k => ⟨K, PySem.W.Frag.In.keeps hK k, c⟩
theorem obsVG_eq {n : Nat} {d : Hd} {g : Addr → Option Obj} {s : Shared} (h : ∀ a, g a = s.heap.get? a) : obsVG n d g = (hookV n d).obs s := by
  have e : g = s.heap.get? := funext h
  rw [e] <;> rfl
section
variable {hd : Hd} {K : PySem.W.Frag}
theorem SaysV.d (c : SaysV hd K) : SaysD hd.fa hd.fn K := congrArg (fun z : AlV => z.1) c
theorem SaysV.ex (c : SaysV hd K) : hd.ex K = true := (ba2 (show (hd.ex K && hd.xs.all fun x => x.ok K hd.file) = true from congrArg (fun z : AlV => z.2.2) c)).1
theorem SaysV.x (c : SaysV hd K) (i : Nat) {x : XDef} (h : hd.xs[i]? = some x := by rfl) : XCls K (ga K x.cn) ∧ XIni K hd.file (ga K x.cn) (fAd K x.at_) "__init__" x.qual x.params x.body x.scope := by
  have c1 := (ba2 (show (hd.ex K && hd.xs.all fun x => x.ok K hd.file) = true from congrArg (fun z : AlV => z.2.2) c)).2
  have e : hd.xs.map (fun x => fnY K x.at_) = hd.xs.map XDef.val := congrArg (fun z : AlV => z.2.1) c
  have e2 : (hd.xs.map fun x => fnY K x.at_)[i]? = (hd.xs.map XDef.val)[i]? := by rw [e]
  rw [List.getElem?_map, List.getElem?_map, h] at e2
  exact XDef.ini (Option.some.inj e2) (List.all_eq_true.mp c1 x (List.mem_of_getElem? h))
end
/-! ### classes, methods, from the facts -/
section
variable {P : Program} {w : World} {K : PySem.W.Frag} {mg : Str → Option Value} {base : Heap}
theorem fcalD {x qual : Str} {params : Arguments} {body : List Stmt} {scope : Scope} {f : Addr} {kws : List (Str × V)} {N ps : List Str} {k : Nat} {F : SF} (D : ∃ fd, FunD K x qual params body scope [] kws f fd) (hm : mg x = some (.ref f)) (S : FnScope N ps scope)
    (bn : ∀ (kV doc pm : Value) (an : Option Addr) (cdv ct : Value) (us : List Value), us.length = ps.length → bindArgs (PySem.W.fnOf x qual params body scope .none kV doc pm an cdv ct) ⟨us, []⟩ = pure (ps.zip us)) (hb : BodyOk P w K mg base N qual scope body k F) :
    FCal P w K mg base (k + 1) x (phi N.length ps.length F) := by
  obtain ⟨fd, D⟩ := D
  exact ⟨f, fd, ps, fnV_D D S hb, hm, D.kp, D.bindsN bn⟩
theorem mcalD {cn x qual : Str} {params : Arguments} {body : List Stmt} {scope : Scope} {f C : Addr} {kws : List (Str × V)} {N ps : List Str} {k : Nat} {F : SF} (D : ∃ fd, FunD K x qual params body scope [] kws f fd) (hm : mg cn = some (.ref C)) (hc : Cls K C) (ht : Meth K C x f) (S : FnScope N ps scope)
    (bn : ∀ (kV doc pm : Value) (an : Option Addr) (cdv ct : Value) (us : List Value), us.length = ps.length → bindArgs (PySem.W.fnOf x qual params body scope .none kV doc pm an cdv ct) ⟨us, []⟩ = pure (ps.zip us)) (hb : BodyOk P w K mg base N qual scope body k F) :
    MCal P w K mg base (k + 1) cn x (phi N.length ps.length F) := by
  obtain ⟨fd, D⟩ := D
  exact ⟨C, f, fd, ps, fnV_D D S hb, hm, hc, ht, D.bindsN bn⟩
theorem ncalD {cn x qual : Str} {params : Arguments} {body : List Stmt} {scope : Scope} {f C : Addr} {kws : List (Str × V)} {N ps : List Str} {k : Nat} {F : SF} (D : ∃ fd, FunD K x qual params body scope [] kws f fd) (hm : mg cn = some (.ref C)) (ht : Mk K C f) (S : FnScope N ps scope)
    (bn : ∀ (kV doc pm : Value) (an : Option Addr) (cdv ct : Value) (us : List Value), us.length = ps.length → bindArgs (PySem.W.fnOf x qual params body scope .none kV doc pm an cdv ct) ⟨us, []⟩ = pure (ps.zip us)) (hb : BodyOk P w K mg base N qual scope body k F) :
    NCal P w K mg base (k + 1) cn (phi N.length ps.length F) := by
  obtain ⟨fd, D⟩ := D
  exact ⟨C, f, fd, ps, fnV_D D S hb, hm, ht, D.bindsN bn⟩
/-- what isinstance asks of a class -/
def isClsB (K : PySem.W.Frag) (C : Addr) : Bool := decide (PySem.W.findIn K (.ref C) "__class__" = some (some (.builtin "object.__class__"))) && (decide (PySem.W.specialIn K (.builtin "object.__class__") "__get__" = some (some (.builtin "getset_descriptor.__get__"))) &&
  (decide (PySem.W.takesIn K (.builtin "object.__class__") = some true) && decide (PySem.W.mroIn K C (.type "object") = some true)))
theorem isClsB_ok {C : Addr} (hc : Cls K C) (h : isClsB K C = true) : IsCls K C := by
  obtain ⟨h1, h⟩ := ba2 h
  obtain ⟨h2, h⟩ := ba2 h
  obtain ⟨h3, h4⟩ := ba2 h
  exact ⟨hc, of_decide_eq_true h1, of_decide_eq_true h2, of_decide_eq_true h3, of_decide_eq_true h4⟩
def eqB (K : PySem.W.Frag) (C f : Addr) : Bool := decide (PySem.W.findIn K (.ref C) "__eq__" = some (some (.ref f))) && (PySem.W.isFn K (.ref f) && (decide (PySem.W.findIn K (.ref C) "__ne__" = some (some (.builtin "object.__ne__"))) && tys.all fun n => decide (PySem.W.subIn K (.type n) (.ref C) = some false)))
theorem eqcalD {cn x qual : Str} {params : Arguments} {body : List Stmt} {scope : Scope} {f C : Addr} {kws : List (Str × V)} {N ps : List Str} {k : Nat} {F : SF} (D : ∃ fd, FunD K x qual params body scope [] kws f fd) (hm : mg cn = some (.ref C)) (hc : IsCls K C) (he : eqB K C f = true) (S : FnScope N ps scope)
    (bn : ∀ (kV doc pm : Value) (an : Option Addr) (cdv ct : Value) (us : List Value), us.length = ps.length → bindArgs (PySem.W.fnOf x qual params body scope .none kV doc pm an cdv ct) ⟨us, []⟩ = pure (ps.zip us)) (hb : BodyOk P w K mg base N qual scope body k F) :
    EqCal P w K mg base (k + 1) cn (phi N.length ps.length F) := by
  obtain ⟨fd, D⟩ := D
  obtain ⟨h1, he⟩ := ba2 he
  obtain ⟨h2, he⟩ := ba2 he
  obtain ⟨h3, h4⟩ := ba2 he
  exact ⟨C, f, fd, ps, fnV_D D S hb, hm, hc, of_decide_eq_true h1, h2, of_decide_eq_true h3, D.bindsN bn, fun n hn => of_decide_eq_true (List.all_eq_true.mp h4 n hn)⟩
/-- isinstance(.., C): what is asked of values of built-in types, of C's instances -/
def askB (K : PySem.W.Frag) (C : Addr) : Bool := tys.all fun n => decide (PySem.W.kitOne K (.type n) (.ref C) = some false)
theorem askB_ok {C : Addr} (h : askB K C = true) : ∀ n ∈ tys, PySem.W.kitOne K (.type n) (.ref C) = some false := fun n hn => of_decide_eq_true (List.all_eq_true.mp h n hn)
theorem ask_self {cn : Str} {C : Addr} (hm : mg cn = some (.ref C)) (hc : IsCls K C) : AskC K mg cn (.ref C) true := ⟨C, hm, hc, by unfold PySem.W.kitOne; simp⟩
/-- an own exception's __init__ of one field -/
theorem ecal1_of {cn p qual : Str} {params : Arguments} {body : List Stmt} {scope : Scope} {C fI : Addr} {file : Str} {a0 : Arg} {q0 q1 q2 q3 q4 q5 q6 q7 q8 q9 : Pos} (hm : mg cn = some (.ref C)) (T : XCls K C) (F : XIni K file C fI "__init__" qual params body scope) (hsup : mg "super" = none)
    (hb : body = [.Expr (.Call (.Attribute (.Call (.Name "super" q0) [] [] q1) "__init__" q2) [.Name p q3] [] q4) q5, .Assign [.Attribute (.Name "self" q6) p q7] (.Name p q8) q9])
    (hfile : ((P.main.file : Str) == file) = true) (htop : (P.main.scope.names.lookup ("super" : Str)).isSome = false) (hpar : (params.posonlyargs ++ params.args).head? = some a0) (ha0 : a0.arg = "self") (hself : (p == ("self" : Str)) = false) (hdb : (p == ("__debug__" : Str)) = false)
    (hbind : ∀ (kV doc pm : Value) (an : Option Addr) (cdv ct : Value) (cc : Addr) (body : List Stmt) (e : Addr) (u : Value), bindArgs (PySem.W.ksFn "__init__" qual params body scope .none kV doc pm an cdv ct cc) ⟨[.ref e, u], []⟩ = pure (xb e p u))
    (hbind2 : ∀ (kV doc pm : Value) (an : Option Addr) (cdv ct : Value) (cc : Addr) (body : List Stmt) (e : Addr) (u : Value), bindArgs (PySem.W.ksFn "__init__" qual params body scope .none kV doc pm an cdv ct cc) ⟨[.ref e], [(p, u)]⟩ = pure (xb e p u))
    (hks : scope.names.lookup ("super" : Str) = some .globalImplicit) (hkc : scope.names.lookup ("__class__" : Str) = some .free) (hka : scope.names.lookup ("self" : Str) = some .local) (hkp : scope.names.lookup p = some .local) (hk : scope.kind = .function)
    (hcell : ∀ x ∈ scope.names, x.2 ≠ .cell) (hco : scope.isCoroutine = false) (hgen : scope.isGenerator = false) (hno : PySem.W.findIn K (.ref C) p = some none) (hev : ∀ env : Env, ∃ pl, eval (.Call (.Attribute (.Call (.Name "super" q0) [] [] q1) "__init__" q2) [.Name p q3] [] q4) env = (do
      let ov ← attributeBase (.Call (.Name "super" q0) [] [] q1) "__init__" env (eval (.Call (.Name "super" q0) [] [] q1) env)
      standAt q2.atName
      let fx ← holding [ov] (getMethod ov "__init__" pl)
      callWith q4 fx.1 fx.2 (backTo q4 (starEach [.Name p q3] env)) [])) : ECal1 P w K mg cn p := by
  subst hb
  refine ⟨C, fI, hm, T, F.ini, F.fn, fun A s e t0 u ar R B ha he heK k => ?_⟩
  exact run_init1 T B.dp B.kin B.glob hsup B.blt B.lim F he hfile htop (by decide +kernel) hpar ha0 heK hself hdb (fun kV doc pm an cdv ct cc body => by
    rcases ha with rfl | rfl
    · exact hbind kV doc pm an cdv ct cc body e u
    · exact hbind2 kV doc pm an cdv ct cc body e u) hks hkc hka hkp hk hcell hco hgen hno hev k
/-- an own exception's __init__ of two fields -/
theorem ecal2_of {cn p p' qual : Str} {params : Arguments} {body : List Stmt} {scope : Scope} {C fI : Addr} {file : Str} {a0 : Arg} {q0 q1 q2 q3 q4 q5 q6 q7 q8 q9 r3 r6 r7 r8 r9 : Pos} (hm : mg cn = some (.ref C)) (T : XCls K C) (F : XIni K file C fI "__init__" qual params body scope) (hsup : mg "super" = none)
    (hb : body = [.Expr (.Call (.Attribute (.Call (.Name "super" q0) [] [] q1) "__init__" q2) [.Name p q3, .Name p' r3] [] q4) q5, .Assign [.Attribute (.Name "self" q6) p q7] (.Name p q8) q9, .Assign [.Attribute (.Name "self" r6) p' r7] (.Name p' r8) r9])
    (hfile : ((P.main.file : Str) == file) = true) (htop : (P.main.scope.names.lookup ("super" : Str)).isSome = false) (hpar : (params.posonlyargs ++ params.args).head? = some a0) (ha0 : a0.arg = "self") (hself : (p == ("self" : Str)) = false) (hdb : (p == ("__debug__" : Str)) = false) (hself2 : (p' == ("self" : Str)) = false) (hdb2 : (p' == ("__debug__" : Str)) = false) (hpp : (p == p') = false)
    (hbind : ∀ (kV doc pm : Value) (an : Option Addr) (cdv ct : Value) (cc : Addr) (body : List Stmt) (e : Addr) (u u2 : Value), bindArgs (PySem.W.ksFn "__init__" qual params body scope .none kV doc pm an cdv ct cc) ⟨[.ref e, u, u2], []⟩ = pure (xb2 e p u p' u2))
    (hbind2 : ∀ (kV doc pm : Value) (an : Option Addr) (cdv ct : Value) (cc : Addr) (body : List Stmt) (e : Addr) (u u2 : Value), bindArgs (PySem.W.ksFn "__init__" qual params body scope .none kV doc pm an cdv ct cc) ⟨[.ref e], [(p, u), (p', u2)]⟩ = pure (xb2 e p u p' u2))
    (hbind3 : ∀ (kV doc pm : Value) (an : Option Addr) (cdv ct : Value) (cc : Addr) (body : List Stmt) (e : Addr) (u u2 : Value), bindArgs (PySem.W.ksFn "__init__" qual params body scope .none kV doc pm an cdv ct cc) ⟨[.ref e], [(p', u2), (p, u)]⟩ = pure (xb2 e p u p' u2))
    (hks : scope.names.lookup ("super" : Str) = some .globalImplicit) (hkc : scope.names.lookup ("__class__" : Str) = some .free) (hka : scope.names.lookup ("self" : Str) = some .local) (hkp : scope.names.lookup p = some .local) (hkp2 : scope.names.lookup p' = some .local) (hk : scope.kind = .function)
    (hcell : ∀ x ∈ scope.names, x.2 ≠ .cell) (hco : scope.isCoroutine = false) (hgen : scope.isGenerator = false) (hno : PySem.W.findIn K (.ref C) p = some none) (hno2 : PySem.W.findIn K (.ref C) p' = some none) (hev : ∀ env : Env, ∃ pl, eval (.Call (.Attribute (.Call (.Name "super" q0) [] [] q1) "__init__" q2) [.Name p q3, .Name p' r3] [] q4) env = (do
      let ov ← attributeBase (.Call (.Name "super" q0) [] [] q1) "__init__" env (eval (.Call (.Name "super" q0) [] [] q1) env)
      standAt q2.atName
      let fx ← holding [ov] (getMethod ov "__init__" pl)
      callWith q4 fx.1 fx.2 (backTo q4 (starEach [.Name p q3, .Name p' r3] env)) [])) : ECal2 P w K mg cn p p' := by
  subst hb
  refine ⟨by simpa using hpp, C, fI, hm, T, F.ini, F.fn, fun A s e t0 u u2 ar R B ha he heK k => ?_⟩
  exact run_init2 T B.dp B.kin B.glob hsup B.blt B.lim F he hfile htop (by decide +kernel) hpar ha0 heK hself hdb hself2 hdb2 hpp (fun kV doc pm an cdv ct cc body => by
    rcases ha with rfl | rfl | rfl
    · exact hbind kV doc pm an cdv ct cc body e u u2
    · exact hbind2 kV doc pm an cdv ct cc body e u u2
    · exact hbind3 kV doc pm an cdv ct cc body e u u2) hks hkc hka hkp hkp2 hk hcell hco hgen hno hno2 hev k
end
end Vl
set_option Elab.async false
set_option linter.all false
set_option maxRecDepth 100000
set_option maxHeartbeats 1000000
/-! Vl15: levels; a def of which nothing is promised. -/
namespace Vl
open PySem PySem.Spec PyProof.Rows L2 Vx He
theorem Rm.mark {k : Nat} {A : Around} {v : Option Value} (r : Room k A) : Rm k (A.mark v) := ⟨r.un⟩
section
variable {P : Program} {w : World} {K : PySem.W.Frag} {mg : Str → Option Value} {base : Heap} {j k : Nat} {x : Str} {φ : List Val → Mem → R Val}
theorem FCal.mono (h : FCal P w K mg base j x φ) (le : j ≤ k) : FCal P w K mg base k x φ := by
  obtain ⟨f, fd, ps, F, r⟩ := h.ex
  exact ⟨f, fd, ps, ⟨F.len, fun A outer s H args us vs Q E hr => F.run A outer s H args us vs Q E (hr.mono le)⟩, r⟩
theorem fcal_bad {qual : Str} {params : Arguments} {body : List Stmt} {scope : Scope} {f : Addr} {kws : List (Str × V)} {N ps : List Str} (D : ∃ fd, FunD K x qual params body scope [] kws f fd) (hm : mg x = some (.ref f)) (S : FnScope N ps scope)
    (bn : ∀ (kV doc pm : Value) (an : Option Addr) (cdv ct : Value) (us : List Value), us.length = ps.length → bindArgs (PySem.W.fnOf x qual params body scope .none kV doc pm an cdv ct) ⟨us, []⟩ = pure (ps.zip us)) :
    FCal P w K mg base k x (fun _ _ => .bad) := by
  obtain ⟨fd, D⟩ := D
  exact ⟨f, fd, ps, ⟨fun vs H Q E ⟨ρ, M, ws, g, r, q⟩ => q.elim, fun A outer s H args us vs Q E hr e0 b r ⟨ρ, M, ws, g, r2, q⟩ => q.elim⟩, hm, D.kp, D.bindsN bn⟩
end
end Vl
set_option Elab.async false
set_option linter.all false
set_option maxRecDepth 100000
set_option maxHeartbeats 1000000
/-! Vl16: the end of a law. -/
namespace Vl
open PySem PySem.Spec PyProof.Rows L2 Vx He
theorem law_start {K : PySem.W.Frag} {mg : Str → Option Value} {H : Hp} {a : Addr} {ns : List Int} {φ : List Val → Mem → R Val} {M : Mem} (hs : SqL K H a (ns.map V.int)) (h : φ [.d (.scr ns)] [] = .ok (.d (.bl true)) M) : spF ⟨mg, K, none⟩ φ [.ref a] H (fun v _ => v = .bl true) fun _ _ _ => False := by
  refine ⟨⟨fun _ => 0, fun _ => False⟩, [], [.d (.scr ns)], ⟨fun k o e => (by simp at e), fun j k l _ _ => ?_, fun a z => z.elim, fun k l z => z.elim⟩, ⟨_, _, rfl, ⟨a, rfl, ?_⟩, rfl⟩, ?_⟩
  · obtain ⟨o, e, _⟩ := l
    simp at e
  · rcases hs with hs | hs
    · refine .inl ⟨hs, fun z => ?_⟩
      rcases z with z | ⟨k, ⟨o, e, _⟩, _⟩
      · exact z
      · simp at e
    · exact .inr fun H' => .inr hs
  · rw [h]
    exact fun ρ' u H' s g r => r
theorem end_walk {l : PySem.W.OpenLaw} {n k : Nat} {q : Program} {loose : List Str} {XP : (Str → Option Value) → Heap → Prop} {YP : World → Heap → Prop} {d : DefRec} {x : Str} (hn : l.most = some n) (hn2 : n ≤ sizeLine) (hdf : d.params.defaults = []) (hr : Room k callerA)
    (F : ∀ (w : World) (mg : Str → Option Value) (fa : Addr) (h : Heap), YP w h → h.Ns mainGlobals mg → mg d.name = some (.ref fa) → ∃ (K : PySem.W.Frag) (fd : FuncData) (φ : List Val → Mem → R Val), K.In h ∧ (∀ (s : Shared) (u : Value), BindsTo s fd ⟨[u], []⟩ [(x, u)]) ∧
      (∀ ns : List Int, ns.length ≤ n → ∃ M, φ [.d (.scr ns)] [] = .ok (.d (.bl true)) M) ∧ ∀ base : Heap, K.In base → base.Ns mainGlobals mg → FnV l.prog w K mg base k fa fd [x] φ) :
    PySem.W.WalkO q loose XP YP l.row.toRowW d [] (fun f vs => PySem.call f vs) := by
  refine Att.attach_call hn hdf fun w s₀ s₁ mg mb fa o pm cd doc a vs ns G Y ho hd hcd hmg hobj hints hlen hg => ?_
  obtain ⟨K, fd, φ, KX, hb, hφ, hF⟩ := F w mg fa _ Y G.T.g hmg
  obtain ⟨M, e⟩ := hφ ns hlen
  exact law_call (sp := spF ⟨mg, K, none⟩ φ) (CX := L2N.CX l.prog w) KX G.T.g G.T.b G.T.builtins G.T.nolimit hg hobj hints (Nat.le_trans hlen hn2) hr hF hb (fun H hO hS => law_start hS e) fun H e s' c => by
    obtain ⟨a, B, H', cls, d, rfl, fl, hk, un, na, os, ag, w⟩ := c
    exact w
end Vl
set_option Elab.async false
set_option linter.all false
set_option maxRecDepth 100000
set_option maxHeartbeats 1000000
/-! Vs0: how the combinators compute (simp). -/
namespace Vl
open PySem PySem.Spec PyProof.Rows L2 Vx
section
variable (e : En) (M : Mem) (f g h : EF) (p q : BF) (F G : SF) (v w : Val)
@[simp] theorem x_fC (d : D) : fC d e M = .ok (.d d) M := rfl
@[simp] theorem x_fNil : fNil e M = .ok [] M := rfl
@[simp] theorem x_fCons (fs : En → Mem → R (List Val)) : fCons f fs e M = rbind (f e M) fun v M1 => rbind (fs e M1) fun vs M2 => .ok (v :: vs) M2 := rfl
@[simp] theorem x_fTup (fs : En → Mem → R (List Val)) : fTup fs e M = rbind (fs e M) mkTup := rfl
@[simp] theorem x_fLst (fs : En → Mem → R (List Val)) : fLst fs e M = rbind (fs e M) mkLst := rfl
@[simp] theorem x_fObj (fs : En → Mem → R (List Val)) : fObj fs e M = rbind (fs e M) mkObj := rfl
@[simp] theorem x_ds0 : dsOf [] = some [] := rfl
@[simp] theorem x_ds1 (x : D) (r : List Val) : dsOf (.d x :: r) = (dsOf r).map (x :: ·) := rfl
@[simp] theorem x_mkTup (vs : List Val) : mkTup vs M = match dsOf vs with
  | some ds => if ds.length ≤ big then .ok (.d (.tup ds)) M else .bad
  | none => .bad := rfl
@[simp] theorem x_mkLst (vs : List Val) : mkLst vs M = match dsOf vs with
  | some ds => if ds.length ≤ big then .ok (.d (.lst ds)) M else .bad
  | none => .bad := rfl
@[simp] theorem x_mkObj (vs : List Val) : mkObj vs M = match dsOf vs with
  | some ds => if ds.length ≤ big then .ok (.obj M.length) (M ++ [.lst ds]) else .bad
  | none => .bad := rfl
@[simp] theorem x_fOp (op : Val → Val → Mem → R Val) : fOp op f g e M = rbind (f e M) fun v M1 => rbind (g e M1) fun w M2 => op v w M2 := rfl
@[simp] theorem x_add (i j : Int) : opAdd (.d (.int i)) (.d (.int j)) M = .ok (.d (.int (i + j))) M := rfl
@[simp] theorem x_opI (C : Int → Int → Prop) [∀ i j, Decidable (C i j)] (k : Int → Int → Int) (i j : Int) : opI C k (.d (.int i)) (.d (.int j)) M = if C i j then .ok (.d (.int (k i j))) M else .bad := rfl
@[simp] theorem x_mul (i j : Int) : opMul (.d (.int i)) (.d (.int j)) M = if CMul i j then .ok (.d (.int (i * j))) M else .bad := rfl
@[simp] theorem x_opB (k : Int → Int → Bool) (i j : Int) : opB k (.d (.int i)) (.d (.int j)) M = .ok (.d (.bl (k i j))) M := rfl
@[simp] theorem x_lt (i j : Int) : opLt (.d (.int i)) (.d (.int j)) M = .ok (.d (.bl (decide (i < j)))) M := rfl
@[simp] theorem x_fNeg : fNeg f e M = rbind (f e M) fun v M1 => match v with
  | .d (.int i) => .ok (.d (.int (-i))) M1
  | _ => .bad := rfl
@[simp] theorem x_asB : asB f e M = rbind (f e M) fun v M1 => match v with
  | .d (.bl b) => .ok b M1
  | _ => .bad := rfl
@[simp] theorem x_asT : asT f e M = rbind (f e M) fun v M1 => match tru M1 v with
  | some b => .ok b M1
  | none => .bad := rfl
@[simp] theorem x_tru_bl (b : Bool) : tru M (.d (.bl b)) = some b := rfl
@[simp] theorem x_tru_int (i : Int) : tru M (.d (.int i)) = some (i != 0) := rfl
@[simp] theorem x_tru_non : tru M (.d .non) = some false := rfl
@[simp] theorem x_bAnd : bAnd p q e M = rbind (p e M) fun b M1 => if b = true then q e M1 else .ok false M1 := rfl
@[simp] theorem x_bOr : bOr p q e M = rbind (p e M) fun b M1 => if b = true then .ok true M1 else q e M1 := rfl
@[simp] theorem x_bNot : bNot p e M = rbind (p e M) fun b M1 => .ok (!b) M1 := rfl
@[simp] theorem x_fAnd : fAnd f g e M = rbind (f e M) fun v M1 => match tru M1 v with
  | some true => g e M1
  | some false => .ok v M1
  | none => .bad := rfl
@[simp] theorem x_fOr : fOr f g e M = rbind (f e M) fun v M1 => match tru M1 v with
  | some true => .ok v M1
  | some false => g e M1
  | none => .bad := rfl
@[simp] theorem x_fNot : fNot f e M = rbind (f e M) fun v M1 => match tru M1 v with
  | some b => .ok (.d (.bl (!b))) M1
  | none => .bad := rfl
@[simp] theorem x_fIf : fIf p f g e M = rbind (p e M) fun b M1 => if b = true then f e M1 else g e M1 := rfl
@[simp] theorem x_fIsN (neg : Bool) : fIsN neg f e M = rbind (f e M) fun v M1 => match isN v with
  | some b => .ok (.d (.bl (if neg then !b else b))) M1
  | none => .bad := rfl
@[simp] theorem x_opIsB (neg b c : Bool) : opIsB neg (.d (.bl b)) (.d (.bl c)) M = .ok (.d (.bl (if neg then !decide (b = c) else decide (b = c)))) M := rfl
@[simp] theorem x_chain (op op' : Val → Val → Mem → R Val) : fChain op op' f g h e M = rbind (f e M) fun v M1 => rbind (g e M1) fun w M2 => rbind (op v w M2) fun z M3 => match z with
  | .d (.bl true) => rbind (h e M3) fun y M4 => op' w y M4
  | .d (.bl false) => .ok (.d (.bl false)) M3
  | _ => .bad := rfl
@[simp] theorem x_ix_lst (l : List D) (i : Int) : opIx (.d (.lst l)) (.d (.int i)) M = match atI l i with
  | some x => .ok (.d x) M
  | none => .bad := rfl
@[simp] theorem x_ix_tup (l : List D) (i : Int) : opIx (.d (.tup l)) (.d (.int i)) M = match atI l i with
  | some x => .ok (.d x) M
  | none => .bad := rfl
@[simp] theorem x_ix_scr (l : List Int) (i : Int) : opIx (.d (.scr l)) (.d (.int i)) M = match atI (l.map D.int) i with
  | some x => .ok (.d x) M
  | none => .bad := rfl
theorem x_ix_obj {k : Nat} {l : List D} (hk : M[k]? = some (.lst l)) (i : Int) : opIx (.obj k) (.d (.int i)) M = match atI l i with
  | some x => .ok (.d x) M
  | none => .bad := by
  show (match rdS M (.obj k) with | some l => (match atI l i with | some x => R.ok (Val.d x) M | none => .bad) | none => .bad) = _
  have : rdS M (.obj k) = some l := by
    unfold rdS rdT rdL plL
    dsimp only
    rw [hk]
  rw [this]
@[simp] theorem x_sNil : sNil e M = .nx e M := rfl
@[simp] theorem x_sBrk : sBrk e M = .bk e M := rfl
@[simp] theorem x_sCont : sCont e M = .ct e M := rfl
@[simp] theorem x_sSeq : sSeq F G e M = match F e M with
  | .nx e' M' => G e' M'
  | o => o := rfl
@[simp] theorem x_sExpr : sExpr f e M = rO (f e M) e fun _ M1 => .nx e M1 := rfl
@[simp] theorem x_sRet : sRet f e M = rO (f e M) e fun v M1 => .rt v M1 := rfl
@[simp] theorem x_sRetN : sRetN e M = .rt (.d .non) M := rfl
@[simp] theorem x_sIf : sIf p F G e M = rOb (p e M) e fun b M1 => if b = true then F e M1 else G e M1 := rfl
@[simp] theorem x_sSet (i : Nat) : sSet i f e M = rO (f e M) e fun v M1 => .nx (e.set i (some v)) M1 := rfl
@[simp] theorem x_sPar (i j : Nat) (fs : En → Mem → R (List Val)) : sPar i j fs e M = rOs (fs e M) e fun vs M1 => match vs with
  | [v, w] => .nx ((e.set i (some v)).set j (some w)) M1
  | _ => .bad := rfl
@[simp] theorem x_tName (i : Nat) (d : D) : tName i d e = some (e.set i (some (.d d))) := rfl
@[simp] theorem x_tNils : tNils [] e = some e := rfl
@[simp] theorem x_tCons2 (t : D → En → Option En) (ts : List D → En → Option En) (d : D) (ds : List D) : tCons2 t ts (d :: ds) e = (t d e).bind (ts ds) := rfl
@[simp] theorem x_tTup (n : Nat) (ts : List D → En → Option En) (ds : List D) : tTup n ts (.tup ds) e = if ds.length = n then ts ds e else none := rfl
@[simp] theorem x_sUnp (t : D → En → Option En) : sUnp t f e M = rO (f e M) e fun v M1 => match v with
  | .d x => (match t x e with
    | some e' => .nx e' M1
    | none => .bad)
  | _ => .bad := rfl
@[simp] theorem x_fCall (φ : List Val → Mem → R Val) (fs : En → Mem → R (List Val)) : fCall φ fs e M = rbind (fs e M) φ := rfl
@[simp] theorem x_fIsi (bt : String → Bool) (ct : Str → Option Bool) : fIsi bt ct f e M = rbind (f e M) fun v M1 => isiR bt ct M1 v := rfl
@[simp] theorem x_isi_non (bt : String → Bool) (ct : Str → Option Bool) : isiR bt ct M (.d .non) = .ok (.d (.bl (bt "NoneType"))) M := rfl
@[simp] theorem x_isi_bl (bt : String → Bool) (ct : Str → Option Bool) (b : Bool) : isiR bt ct M (.d (.bl b)) = .ok (.d (.bl (bt "bool"))) M := rfl
@[simp] theorem x_isi_int (bt : String → Bool) (ct : Str → Option Bool) (b : Int) : isiR bt ct M (.d (.int b)) = .ok (.d (.bl (bt "int"))) M := rfl
@[simp] theorem x_isi_str (bt : String → Bool) (ct : Str → Option Bool) (b : Str) : isiR bt ct M (.d (.str b)) = .ok (.d (.bl (bt "str"))) M := rfl
@[simp] theorem x_isi_scr (bt : String → Bool) (ct : Str → Option Bool) (b : List Int) : isiR bt ct M (.d (.scr b)) = .ok (.d (.bl (bt "list"))) M := rfl
@[simp] theorem x_isi_lst (bt : String → Bool) (ct : Str → Option Bool) (b : List D) : isiR bt ct M (.d (.lst b)) = .ok (.d (.bl (bt "list"))) M := rfl
@[simp] theorem x_isi_tup (bt : String → Bool) (ct : Str → Option Bool) (b : List D) : isiR bt ct M (.d (.tup b)) = .ok (.d (.bl (bt "tuple"))) M := rfl
@[simp] theorem x_isi_dct (bt : String → Bool) (ct : Str → Option Bool) (b : List (Key × D)) : isiR bt ct M (.d (.dct b)) = .ok (.d (.bl (bt "dict"))) M := rfl
@[simp] theorem x_isi_ins (bt : String → Bool) (ct : Str → Option Bool) (C : Str) (fs : List (Str × D)) : isiR bt ct M (.d (.ins C fs)) = match ct C with
  | some b => .ok (.d (.bl b)) M
  | none => .bad := rfl
@[simp] theorem x_len_lst (l : List D) : bLen [.d (.lst l)] M = .ok (.d (.int l.length)) M := rfl
@[simp] theorem x_len_tup (l : List D) : bLen [.d (.tup l)] M = .ok (.d (.int l.length)) M := rfl
@[simp] theorem x_len_scr (l : List Int) : bLen [.d (.scr l)] M = .ok (.d (.int l.length)) M := by
  show R.ok (Val.d (.int ((l.map D.int).length : Int))) M = _
  rw [List.length_map]
@[simp] theorem x_len_str (z : Str) : bLen [.d (.str z)] M = if z.length ≤ big then .ok (.d (.int z.length)) M else .bad := rfl
@[simp] theorem x_int_int (i : Int) : bInt [.d (.int i)] M = .ok (.d (.int i)) M := rfl
@[simp] theorem x_int_bl (b : Bool) : bInt [.d (.bl b)] M = .ok (.d (.int (if b then 1 else 0))) M := rfl
@[simp] theorem x_list_lst (l : List D) : bList true [.d (.lst l)] M = .ok (.d (.lst l)) M := rfl
@[simp] theorem x_list_tup (l : List D) : bList true [.d (.tup l)] M = .ok (.d (.lst l)) M := rfl
@[simp] theorem x_tup_lst (l : List D) : bTup [.d (.lst l)] M = .ok (.d (.tup l)) M := rfl
@[simp] theorem x_tup_tup (l : List D) : bTup [.d (.tup l)] M = .ok (.d (.tup l)) M := rfl
@[simp] theorem x_max2 (i j : Int) : bMax [.d (.int i), .d (.int j)] M = .ok (.d (.int (if j > i then j else i))) M := rfl
@[simp] theorem x_min2 (i j : Int) : bMin [.d (.int i), .d (.int j)] M = .ok (.d (.int (if j < i then j else i))) M := rfl
@[simp] theorem x_isN_non : isN (.d .non) = some true := rfl
@[simp] theorem x_isN_bl (b : Bool) : isN (.d (.bl b)) = some false := rfl
@[simp] theorem x_isN_int (b : Int) : isN (.d (.int b)) = some false := rfl
@[simp] theorem x_isN_str (b : Str) : isN (.d (.str b)) = some false := rfl
@[simp] theorem x_isN_tup (b : List D) : isN (.d (.tup b)) = some false := rfl
@[simp] theorem x_isN_lst (b : List D) : isN (.d (.lst b)) = some false := rfl
@[simp] theorem x_attr_ins (cs : List Str) (n : Str) : fAttr cs n f e M = rbind (f e M) fun v M1 => match insOf M1 v with
  | some (C, gs) => if C ∈ cs then (match lookF n gs with
    | some x => .ok x M1
    | none => .bad) else .bad
  | none => .bad := rfl
end
@[simp] theorem x_var0 (v : Option Val) (r : En) (M : Mem) : fVar 0 (v :: r) M = match v with
  | some v => .ok v M
  | none => .bad := by cases v <;> rfl
@[simp] theorem x_varS (i : Nat) (v : Option Val) (r : En) (M : Mem) : fVar (i + 1) (v :: r) M = fVar i r M := by
  show (match (v :: r)[i + 1]? with | some (some v) => R.ok v M | _ => .bad) = _
  rw [List.getElem?_cons_succ]; rfl
@[simp] theorem x_finish (M0 M1 : Mem) (v : Val) (h : M1.length = M0.length) : finish M0 v M1 = .ok v M1 := by
  unfold finish
  rw [if_pos h]
theorem x_okcut {M0 M1 J : Mem} (h : M1.length = M0.length) (hk : ∀ (k : Nat) (o : MO), M1[k]? = some o → M0[k]? = some o ∨ okO M0.length o = true) : OkCut M0 (M1 ++ J) := fun k o hl e => by
  rw [List.getElem?_append_left (by omega)] at e
  exact hk k o e
/-- what the def made is dropped -/
theorem x_finishD {M0 M1 J : Mem} (d : D) (h : M1.length = M0.length) (hk : ∀ (k : Nat) (o : MO), M1[k]? = some o → M0[k]? = some o ∨ okO M0.length o = true) : finish M0 (.d d) (M1 ++ J) = .ok (.d d) M1 := by
  unfold finish
  by_cases z : (M1 ++ J).length = M0.length
  · rw [if_pos z]
    have : J = [] := by
      rw [List.length_append] at z
      exact List.length_eq_zero_iff.mp (by omega)
    rw [this, List.append_nil]
  · rw [if_neg z, if_pos (x_okcut h hk)]
    show R.ok (Val.d d) ((M1 ++ J).take M0.length) = _
    rw [← h, List.take_left]
theorem x_call {n : Nat} {F : SF} {ws : List Val} {M M' : Mem} {v : Val} {m : Nat} (hm : ws.length = m) (h : F (env0 n ws) M = .rt v M') : phi n m F ws M = finish M v M' := by
  unfold phi callF
  rw [if_pos hm, h]
theorem x_callX {n : Nat} {F : SF} {ws : List Val} {M M' : Mem} {x : Exn} {e : En} {m : Nat} (hm : ws.length = m) (h : F (env0 n ws) M = .er x e M') : phi n m F ws M = finishX M x M' := by
  unfold phi callF
  rw [if_pos hm, h]
theorem x_callN {n : Nat} {F : SF} {ws : List Val} {M M' : Mem} {e : En} {m : Nat} (hm : ws.length = m) (h : F (env0 n ws) M = .nx e M') : phi n m F ws M = finish M (.d .non) M' := by
  unfold phi callF
  rw [if_pos hm, h]
theorem x_finishX (M0 M1 : Mem) (x : Exn) (h : M1.length = M0.length) : finishX M0 x M1 = .err x M1 := by
  unfold finishX
  rw [if_pos h]
/-- a comprehension that leaves the store as it is -/
theorem x_lcF {chk : Mem → Prop} {t : D → En → Option En} {ts : BF} {el : EF} {e : En} {M : Mem} (hc : chk M) : ∀ {l : List D} (e1 : D → En) (p : D → Bool) (g : D → D), (∀ x ∈ l, t x e = some (e1 x)) → (∀ x ∈ l, ts (e1 x) M = .ok (p x) M) → (∀ x ∈ l, p x = true → el (e1 x) M = .ok (.d (g x)) M) →
    lcF chk t ts el e l M = .ok ((l.filter p).map g) M
  | [], e1, p, g, _, _, _ => by
    unfold lcF
    rw [if_pos hc]; rfl
  | x :: l, e1, p, g, h1, h2, h3 => by
    have ih := x_lcF hc (l := l) e1 p g (fun y hy => h1 y (List.mem_cons_of_mem _ hy)) (fun y hy => h2 y (List.mem_cons_of_mem _ hy)) fun y hy => h3 y (List.mem_cons_of_mem _ hy)
    unfold lcF
    rw [if_pos hc, h1 x List.mem_cons_self]
    dsimp only
    rw [h2 x List.mem_cons_self]
    dsimp only
    cases hp : p x with
    | false =>
      rw [if_neg Bool.false_ne_true, ih, List.filter_cons_of_neg (by rw [hp]; exact Bool.false_ne_true)]
    | true =>
      rw [if_pos rfl, h3 x List.mem_cons_self hp, List.filter_cons_of_pos hp, List.map_cons]
      dsimp only [lcPut]
      rw [ih]
theorem x_fLc {fi : En → Mem → R Iv} {t : D → En → Option En} {ts : BF} {el : EF} {vs : List Nat} {e : En} {M M1 : Mem} {v : Iv} (hi : fi e M = .ok v M1) (hc : v.chk M1) (hb : v.l.length ≤ big) (e1 : D → En) (p : D → Bool) (g : D → D) (h1 : ∀ x ∈ v.l, t x (wipeE e vs) = some (e1 x))
    (h2 : ∀ x ∈ v.l, ts (e1 x) M1 = .ok (p x) M1) (h3 : ∀ x ∈ v.l, p x = true → el (e1 x) M1 = .ok (.d (g x)) M1) : fLc fi t ts el vs e M = .ok (.d (.lst ((v.l.filter p).map g))) M1 := by
  unfold fLc
  rw [hi]
  dsimp only
  rw [if_pos hb, x_lcF hc e1 p g h1 h2 h3]
end Vl
set_option Elab.async false
set_option linter.all false
set_option maxRecDepth 100000
set_option maxHeartbeats 4000000
/-! Vx6: an own exception made with keywords; isinstance of a caught error that has fields. -/
namespace Vx
open PySem PySem.Spec PySem.Calls PyProof.Rows HandSPX
section
variable {M : Model} {A : Around} {E : Value → Shared → Prop} {h : Heap} {g : Array GenState} {d : Drawn} {t : Nat} {os : OsState}
variable {nm q : Str} {C N : Addr} {bs bm : List Value} {hdct : Bool} {sn : List Str} {sub : List Value} {ab : Bool} {col : Option Bool} {dd : Option Addr} {k0 k1 k2 k3 k5 : Option Value}
theorem kw_check {kw : List (Str × Value)} {Q : Unit → Shared → Prop} (hT : ∀ X : String, bm.contains (.type X) = veTail.contains (.type X))
    (hC : h.get? C = some (excClassObj nm q C N bs bm hdct sn sub ab col dd k0 k1 k2 k3 k5 "ValueError.__new__")) (hq : Q () ⟨h, g, d, t, os⟩) : wpAny M A (checkBuiltinCall "ValueError.__new__" ⟨[.ref C], kw⟩) Q E ⟨h, g, d, t, os⟩ := by
  have FB := F.excBase_ValueError
  have hcont : (Value.ref C :: bm).contains (.type "ValueError") = true := by rw [List.contains_cons, hT, FB.hasB, Bool.or_true]
  have hstar := FB.noStar
  simp only [checkBuiltinCall, FB.newKind, FB.newSplit, FB.newRow]
  repeat (first | refine wpAny_loadPart_at hC ?_ | (refine wpAny_isSubtype_exc hC ?_; rw [hcont]) | refine wpAny_staticBase_exc hC ?_ | refine wpAny_madeBy_exc hC ?_ | simp only [bne_self_eq_false, Bool.false_eq_true, if_false] | wp_step)
  exact hq
theorem kw_tc {kw : List (Str × Value)} {newId : String} {Q : Unit → Shared → Prop} (hC : h.get? C = some (excClassObj nm q C N bs bm hdct sn sub ab col dd k0 k1 k2 k3 k5 newId)) (hq : Q () ⟨h, g, d, t, os⟩) : wpAny M A (checkBuiltinCall "type.__call__" ⟨[.ref C], kw⟩) Q E ⟨h, g, d, t, os⟩ := by
  have f3 := tc_sub
  have hTy : (⟨h, g, d, t, os⟩ : Shared).TypeIs (.ref C) "type" := ⟨_, hC, rfl⟩
  simp only [checkBuiltinCall, tc_kind, tc_split]
  repeat (any_goals (first | assumption | with_reducible refine wpAny_loadPart_at hC ?_ | with_reducible refine wpAny_onRaise ?_ | with_reducible refine wpAny_map ?_ | wp_step))
end
section
variable {prog : Program} {w : World} {A : Around} {E : Value → Shared → Prop} {R : Result → Shared → Prop} {h : Heap} {g : Array GenState} {d : Drawn} {t : Nat} {os : OsState}
variable {nm q : Str} {C N : Addr} {bs bm : List Value} {hdct : Bool} {sn : List Str} {sub : List Value} {ab : Bool} {col : Option Bool} {dd : Option Addr} {k0 k1 k2 k3 k5 : Option Value}
theorem kw_new {kw : List (Str × Value)} (hT : ∀ X : String, bm.contains (.type X) = veTail.contains (.type X))
    (hC : h.get? C = some (excClassObj nm q C N bs bm hdct sn sub ab col dd k0 k1 k2 k3 k5 "ValueError.__new__"))
    (hq : R (.ok (.ret (.ref (h.objs.size + 1)))) ⟨(h.push (PySem.W.kdv_tup [])).push (excO C h.objs.size), g, d, t, os⟩) :
    codeAny (model prog w) A (.builtin "ValueError.__new__" ⟨[.ref C], kw⟩) R ⟨h, g, d, t, os⟩ := by
  have FB := F.excBase_ValueError
  have hends := FB.ends
  have hcB : (Value.ref C :: bm).contains (.type "ValueError") = true := by rw [List.contains_cons, hT, FB.hasB, Bool.or_true]
  have hcA : (Value.ref C :: bm).contains (.type "AttributeError") = false := by rw [List.contains_cons, hT, FB.noAttr]; rfl
  have hcN : (Value.ref C :: bm).contains (.type "NameError") = false := by rw [List.contains_cons, hT, FB.noName]; rfl
  have hrest : ([] : List Value).length ≤ sizeLine := Nat.zero_le _
  refine codeAny_builtinAt FB.entry ?_
  unfold Builtin.«BaseException.__new__»
  refine _root_.PySem.wpAt_bind ?_
  show _root_.PySem.wpAt _ _ _ (stack >>= _) _ _ _
  refine _root_.PySem.wpAt_bind (_root_.PySem.wpAt_stack fun p below => _root_.PySem.wpAt_of_wpAny ?_)
  wp_walk
  refine _root_.PySem.wpAt_of_wpAny ?_
  rw [FB.owner]
  repeat (first | with_reducible refine wpAny_madeHere_exc FB.canon hC ?_ | with_reducible refine wpAny_loadPart_at hC ?_ | (with_reducible refine wpAny_isSubtype_exc hC ?_; first | rw [hcB] | rw [hcA] | rw [hcN]) | wp_step)
  show R _ _
  rw [Heap.size_push]
  exact hq
theorem kw_typeCall {kw : List (Str × Value)} {fI : Addr} {Q : Fin → Shared → Prop} (hT : ∀ X : String, bm.contains (.type X) = veTail.contains (.type X))
    (hC : h.get? C = some (excClassObj nm q C N bs bm hdct sn sub ab col dd k0 k1 k2 k3 k5 "ValueError.__new__")) (hi : W.Looks (model prog w) h (typeLookup (.ref C) "__init__") (some (.ref fI))) (hb : ∀ self, W.Looks (model prog w) h (bindSpecial (.ref fI) self) (.ref fI, [self]))
    (hq : codeAny (model prog w) A (.call (.ref fI) ⟨[.ref (h.objs.size + 1)], kw⟩) (fun r s' => match r with | .ok (.ret v) => v = .none ∧ Q (.done (.ret (.ref (h.objs.size + 1)))) s' | .ok _ => False | .error e => E e s') ⟨(h.push (W.kdv_tup [])).push (excO C h.objs.size), g, d, t, os⟩) :
    wpAny (model prog w) A (Builtin.«type.__call__» ⟨[.ref C], kw⟩) Q E ⟨h, g, d, t, os⟩ := by
  have FB := F.excBase_ValueError
  repeat (first | with_reducible refine wpAny_loadPart_at hC ?_ | with_reducible refine wpAny_madeBy_exc hC ?_ | wp_step)
  refine codeAny_call_builtin_code (Code.quiet_builtin _ FB.quiet) (kw_check hT hC ?_)
  refine kw_new hT hC ?_
  show wpAny _ _ _ _ _ _
  have k : ∀ b o, h.get? b = some o → ((h.push (W.kdv_tup [])).push (excO C h.objs.size)).get? b = some o := fun b o e => Heap.get?_push_of_some _ (Heap.get?_push_of_some _ e)
  have hC1 := k _ _ hC
  have hget : ((h.push (W.kdv_tup [])).push (excO C h.objs.size)).get? (h.objs.size + 1) = some (excO C h.objs.size) := by heap_get
  have hcC : (Value.ref C :: bm).contains (.ref C) = true := by simp
  have i1 := hi.keeps k
  have b1 := (hb (.ref (h.objs.size + 1))).keeps k
  unfold isInstance
  repeat (first | with_reducible refine wpAny_loadPart_at hget ?_ | (with_reducible refine wpAny_isSubtype_exc hC1 ?_; rw [hcC]) | wp_step)
  show wpAny _ _ (typeLookup (.ref C) _) _ _ _
  refine i1.at ?_
  refine wpAny_holding (wpAny_bind (b1.at ?_))
  refine wpAny_bind (wpAny_call (codeAny_mono hq fun r s' z => ?_))
  rcases r with e | (v | _ | _ | _) <;> first | exact z | exact z.elim | skip
  obtain ⟨rfl, z⟩ := z
  first
    | exact wpAny_pure (wpAny_pure z)
    | (wp_walk; exact z)
theorem kw_call {kw : List (Str × Value)} {fI : Addr} (hT : ∀ X : String, bm.contains (.type X) = veTail.contains (.type X))
    (hC : h.get? C = some (excClassObj nm q C N bs bm hdct sn sub ab col dd k0 k1 k2 k3 k5 "ValueError.__new__")) (hi : W.Looks (model prog w) h (typeLookup (.ref C) "__init__") (some (.ref fI))) (hb : ∀ self, W.Looks (model prog w) h (bindSpecial (.ref fI) self) (.ref fI, [self]))
    (hq : codeAny (model prog w) (A.under (.builtin "type.__call__" ⟨[.ref C], kw⟩)) (.call (.ref fI) ⟨[.ref (h.objs.size + 1)], kw⟩) (W.InitBack (h.objs.size + 1) R) ⟨(h.push (W.kdv_tup [])).push (excO C h.objs.size), g, d, t, os⟩) :
    codeAny (model prog w) A (.call (.ref C) ⟨[], kw⟩) R ⟨h, g, d, t, os⟩ := by
  have f1 := tc_lookup
  have f2 := tc_bind (.ref C)
  have f3 := tc_sub
  have hTy : (⟨h, g, d, t, os⟩ : Shared).TypeIs (.ref C) "type" := ⟨_, hC, rfl⟩
  refine codeAny_of_tree ?_
  show wpAny _ _ (callAny (.ref C) _) _ _ _
  repeat (any_goals (first | assumption | with_reducible refine wpAny_loadPart_at hC ?_ | wp_step))
  refine ⟨rfl, ?_⟩
  refine codeAny_call_builtin_at (Code.quiet_builtin _ (by decide +kernel)) entry_typeCall ?_
  have body := kw_typeCall (prog := prog) (w := w) (A := A.under (.builtin "type.__call__" ⟨[.ref C], kw⟩)) (g := g) (d := d) (t := t) (os := os) (kw := kw) (Q := fun fin s' => match fin with | .done f => R (.ok f) s' | .again c' => c'.quiet = true ∧ codeAny (model prog w) A c' R s') (E := fun e s' => R (.error e) s') hT hC hi hb (codeAny_mono hq fun r s' z => by
    rcases r with e | (v | _ | _ | _) <;> exact z)
  exact kw_tc hC body
end
end Vx
namespace Vx
open PySem PySem.Spec PySem.Calls PyProof.Rows L2 Vl
section
variable {X : Cx} {x f f' : Str} {e e2 : Expr} {te te2 : TE} {p pos pos' kp kp2 : Pos} {k : Nat}
/-- the made exception's dict, read -/
theorem read_made {A : Around} {C a dx t1 : Addr} {n : Str} {v : V} {u : Value} {h' : Heap} {g : Array GenState} {dr : Drawn} {tk : Nat} {os : OsState} {m : Str → Option Value} {Q : Value → Shared → Prop} {E : Value → Shared → Prop} (T : XfC X.K C) (hno : PySem.W.findIn X.K (.ref C) n = some none) (kin : X.K.In h')
    (he : h'.get? a = some ({ cls := .ref C, dict := some dx, data := .fields #[.ref t1, .none, .none, .none, .bool false, .none] } : Obj)) (hn : h'.Ns1 dx m) (hm : m n = some u) (ru : RelV v u) (q : Q u ⟨h', g, dr, tk + 1, os⟩) :
    wpAny (model X.prog X.w) A (getAttr (.ref a) n true) Q E ⟨h', g, dr, tk, os⟩ := by
  obtain ⟨od, ho, hl⟩ := lookIn_ns hn
  have J : PySem.W.InstAt h' a ({ cls := .ref C, dict := some dx, data := .fields #[.ref t1, .none, .none, .none, .bool false, .none] } : Obj) C (some od) := ⟨he, rfl, rfl, ho⟩
  exact HandSPX.exc_get kin J T.ga T.gg T.exC (PySem.W.findObj_own T.hdC hno rfl (by rw [hl, hm])) (handed_of ru) q
/-- X(f = e).f -/
theorem pe_xkw1 (cc : ECal1 X.prog X.w X.K X.mg x f) (xf : ∀ C, X.mg x = some (.ref C) → XfC X.K C ∧ PySem.W.findIn X.K (.ref C) f = some none) (hr : Room (k + 1) X.A) (hg : Gl X x) (ha : PE X e te) (hdb : (x == ("__debug__" : Str)) = false := by decide)
    (hall : (backToKw pos (keywordEach [⟨some f, e, kp⟩] X.env)).all (·.1.isSome) = true := by rfl) (hks : (backToKw pos (keywordEach [⟨some f, e, kp⟩] X.env)).filterMap (·.1) = [f] := by rfl)
    (hpl : ((backTo pos (starEach [] X.env)).any (·.1) || (backToKw pos (keywordEach [⟨some f, e, kp⟩] X.env)).any (·.1.isNone)) = false := by rfl)
    (hb : attributeBase (.Call (.Name x p) [] [⟨some f, e, kp⟩] pos) f X.env (eval (.Call (.Name x p) [] [⟨some f, e, kp⟩] pos) X.env) = eval (.Call (.Name x p) [] [⟨some f, e, kp⟩] pos) X.env := by rfl) :
    PE X (.Attribute (.Call (.Name x p) [] [⟨some f, e, kp⟩] pos) f pos') te := by
  refine ⟨fun pins s σ H Q I h => ?_⟩
  obtain ⟨C, fI, hm, T, iC, tI, run⟩ := cc.ex
  obtain ⟨nm, q, N, bs, bm, sn, sub, ab, col, dd, k0, k1, k2, k3, k5, hC, hbm, hal⟩ := T.cls
  obtain ⟨xT, hno⟩ := xf C hm
  refine attr_of hb (wpAny_Call_Name_kw (ld_glob I hg hm ?_ hdb))
  refine PySem.W.callWith_KW0 (h₀ := X.base) I.ok.mod.kin T.kC hall ?_ hpl
  have hp : PK X [⟨some f, e, kp⟩] (tCons te tNil) := pk_cons ha pk_nil
  refine thn (hp.run pos pins s σ H (fun vs H1 => match vs with | [v] => Q v H1 | _ => False) I h) fun ws s1 ⟨zs, H1, I1, rz, q1⟩ => ⟨I1.kIn, ?_⟩
  dsimp only at q1
  split at q1
  · rename_i v
    obtain ⟨u, rfl, ru⟩ := vals1 rz
    rw [hks]
    show wpAny _ _ (call (.ref C) [] [(f, u)]) _ _ _
    obtain ⟨hp', g, dr, tk, os⟩ := s1
    have hsz : hp'.objs.size ≤ hp'.objs.size + 1 := Nat.le_succ _
    have hget : ((hp'.push (PySem.W.kdv_tup [])).push (PySem.HandSPX.excO C hp'.objs.size)).get? (hp'.objs.size + 1) = some (PySem.HandSPX.excO C hp'.objs.size) := by heap_get
    have kk : ∀ b o, hp'.get? b = some o → ((hp'.push (PySem.W.kdv_tup [])).push (PySem.HandSPX.excO C hp'.objs.size)).get? b = some o := fun b o e => Heap.get?_push_of_some _ (Heap.get?_push_of_some _ e)
    have I2 : Inv X pins σ (upd H1 (hp'.objs.size + 1) (exo (hp'.objs.size + 1) C none)) ⟨(hp'.push (PySem.W.kdv_tup [])).push (PySem.HandSPX.excO C hp'.objs.size), g, dr, tk, os⟩ :=
      I1.laid (t' := tk) (a := hp'.objs.size + 1) (o := exo (hp'.objs.size + 1) C none) (h' := (hp'.push (PySem.W.kdv_tup [])).push (PySem.HandSPX.excO C hp'.objs.size)) kk hsz (exo_ok hget)
    refine wpAny_call (kw_call (fun Y => PySem.HandSPX.refsVE_contains Y bm hbm) (I1.kIn _ _ hC) (PySem.W.looks_findIn I1.kIn iC) (fun self => PySem.W.bind_fn I1.kIn self tI)
      (run _ _ _ _ u _ _ (below_of I2 (hr.make C [] [(f, u)]).depth) (.inr rfl) hget (fun o z => ?_) fun h' tk' dx t1 k1 hdx hne he' hn' => ?_))
    · have z2 := I1.kIn _ _ z
      exact absurd (Heap.lt_size z2) (by show ¬ hp'.objs.size + 1 < hp'.objs.size; omega)
    · refine ⟨rfl, ?_⟩
      have ext : ∀ b o, hp'.get? b = some o → h'.get? b = some o := fun b o z => k1 b o (Nat.ne_of_lt (Nat.lt_succ_of_lt (Heap.lt_size z))) (kk b o z)
      exact read_made xT hno (I1.kIn.keeps ext) he' hn' (show (if f = f then some u else none) = some u from if_pos rfl) ru ⟨v, H1, I1.kept (t' := tk' + 1) ext, ru, q1⟩
  · exact q1.elim
/-- X(a = e, b = e2).b, a and b X's two fields -/
theorem pe_xkw2 {a b : Str} (cc : ECal2 X.prog X.w X.K X.mg x f f') (hab : (a = f ∧ b = f') ∨ (a = f' ∧ b = f)) (xf : ∀ C, X.mg x = some (.ref C) → XfC X.K C ∧ PySem.W.findIn X.K (.ref C) b = some none) (hr : Room (k + 1) X.A) (hg : Gl X x) (ha : PE X e te) (ha2 : PE X e2 te2) (hdb : (x == ("__debug__" : Str)) = false := by decide)
    (hall : (backToKw pos (keywordEach [⟨some a, e, kp⟩, ⟨some b, e2, kp2⟩] X.env)).all (·.1.isSome) = true := by rfl) (hks : (backToKw pos (keywordEach [⟨some a, e, kp⟩, ⟨some b, e2, kp2⟩] X.env)).filterMap (·.1) = [a, b] := by rfl)
    (hpl : ((backTo pos (starEach [] X.env)).any (·.1) || (backToKw pos (keywordEach [⟨some a, e, kp⟩, ⟨some b, e2, kp2⟩] X.env)).any (·.1.isNone)) = false := by rfl)
    (hb : attributeBase (.Call (.Name x p) [] [⟨some a, e, kp⟩, ⟨some b, e2, kp2⟩] pos) b X.env (eval (.Call (.Name x p) [] [⟨some a, e, kp⟩, ⟨some b, e2, kp2⟩] pos) X.env) = eval (.Call (.Name x p) [] [⟨some a, e, kp⟩, ⟨some b, e2, kp2⟩] pos) X.env := by rfl) :
    PE X (.Attribute (.Call (.Name x p) [] [⟨some a, e, kp⟩, ⟨some b, e2, kp2⟩] pos) b pos') (fun σ H Q => te σ H fun _ H1 => te2 σ H1 Q) := by
  refine ⟨fun pins s σ H Q I h => ?_⟩
  have hff := cc.ne
  obtain ⟨C, fI, hm, T, iC, tI, run⟩ := cc.ex
  obtain ⟨nm, q, N, bs, bm, sn, sub, ab, col, dd, k0, k1, k2, k3, k5, hC, hbm, hal⟩ := T.cls
  obtain ⟨xT, hno⟩ := xf C hm
  refine attr_of hb (wpAny_Call_Name_kw (ld_glob I hg hm ?_ hdb))
  refine PySem.W.callWith_KW0 (h₀ := X.base) I.ok.mod.kin T.kC hall ?_ hpl
  have hp : PK X [⟨some a, e, kp⟩, ⟨some b, e2, kp2⟩] (tCons te (tCons te2 tNil)) := pk_cons ha (pk_cons ha2 pk_nil)
  refine thn (hp.run pos pins s σ H (fun vs H1 => match vs with | [_, v] => Q v H1 | _ => False) I h) fun ws s1 ⟨zs, H1, I1, rz, q1⟩ => ⟨I1.kIn, ?_⟩
  dsimp only at q1
  split at q1
  · rename_i v0 v
    obtain ⟨u0, u, rfl, ru0, ru⟩ := vals2 rz
    rw [hks]
    show wpAny _ _ (call (.ref C) [] [(a, u0), (b, u)]) _ _ _
    obtain ⟨hp', g, dr, tk, os⟩ := s1
    have hsz : hp'.objs.size ≤ hp'.objs.size + 1 := Nat.le_succ _
    have hget : ((hp'.push (PySem.W.kdv_tup [])).push (PySem.HandSPX.excO C hp'.objs.size)).get? (hp'.objs.size + 1) = some (PySem.HandSPX.excO C hp'.objs.size) := by heap_get
    have kk : ∀ b o, hp'.get? b = some o → ((hp'.push (PySem.W.kdv_tup [])).push (PySem.HandSPX.excO C hp'.objs.size)).get? b = some o := fun b o e => Heap.get?_push_of_some _ (Heap.get?_push_of_some _ e)
    have I2 : Inv X pins σ (upd H1 (hp'.objs.size + 1) (exo (hp'.objs.size + 1) C none)) ⟨(hp'.push (PySem.W.kdv_tup [])).push (PySem.HandSPX.excO C hp'.objs.size), g, dr, tk, os⟩ :=
      I1.laid (t' := tk) (a := hp'.objs.size + 1) (o := exo (hp'.objs.size + 1) C none) (h' := (hp'.push (PySem.W.kdv_tup [])).push (PySem.HandSPX.excO C hp'.objs.size)) kk hsz (exo_ok hget)
    have ext2 : ∀ (h' : Heap), (∀ b o, b ≠ hp'.objs.size + 1 → ((hp'.push (PySem.W.kdv_tup [])).push (PySem.HandSPX.excO C hp'.objs.size)).get? b = some o → h'.get? b = some o) → ∀ b o, hp'.get? b = some o → h'.get? b = some o := fun h' k1 b o z => k1 b o (Nat.ne_of_lt (Nat.lt_succ_of_lt (Heap.lt_size z))) (kk b o z)
    have no : ∀ o, X.K.lookup (hp'.objs.size + 1) = some o → False := fun o z => by
      have z2 := I1.kIn _ _ z
      exact absurd (Heap.lt_size z2) (by show ¬ hp'.objs.size + 1 < hp'.objs.size; omega)
    refine wpAny_call (kw_call (fun Y => PySem.HandSPX.refsVE_contains Y bm hbm) (I1.kIn _ _ hC) (PySem.W.looks_findIn I1.kIn iC) (fun self => PySem.W.bind_fn I1.kIn self tI) ?_)
    rcases hab with ⟨rfl, rfl⟩ | ⟨rfl, rfl⟩
    · refine run _ _ _ _ u0 u _ _ (below_of I2 (hr.make C [] [(a, u0), (b, u)]).depth) (.inr (.inl rfl)) hget no fun h' tk' dx t1 k1 hdx hne he' hn' => ⟨rfl, ?_⟩
      exact read_made xT hno (I1.kIn.keeps (ext2 h' k1)) he' hn' (show (if b = b then some u else if b = a then some u0 else none) = some u from if_pos rfl) ru ⟨v, H1, I1.kept (t' := tk' + 1) (ext2 h' k1), ru, q1⟩
    · refine run _ _ _ _ u u0 _ _ (below_of I2 (hr.make C [] [(a, u0), (b, u)]).depth) (.inr (.inr rfl)) hget no fun h' tk' dx t1 k1 hdx hne he' hn' => ⟨rfl, ?_⟩
      exact read_made xT hno (I1.kIn.keeps (ext2 h' k1)) he' hn' (show (if b = a then some u0 else if b = b then some u else none) = some u from by rw [if_neg hff, if_pos rfl]) ru ⟨v, H1, I1.kept (t' := tk' + 1) (ext2 h' k1), ru, q1⟩
  · exact q1.elim
/-! ### X() -/
theorem pmk_x0 {C : Addr} (gC : X.mg x = some (.ref C)) (q : PySem.W.excIn X.K C He.veBase "ValueError.__new__" = true) (kC : PySem.W.keepIn X.K (.ref C) = true) (exC : PySem.W.subIn X.K (.ref C) (.type "BaseException") = some true) (tyC : PySem.W.typeIn X.K (.ref C) = some (.type "type")) (hg : Gl X x)
    (hdb : (x == ("__debug__" : Str)) = false := by decide) : L2N.PMk X (.Call (.Name x p) [] [] pos) (fun _ H Q => Q (.ref C) none H) := by
  intro pins s σ H Q I h
  refine wpAny_Call_Name_kw (ld_glob I hg gC ?_ hdb)
  refine PySem.W.callWith_K0 I.kIn kC ?_
  show wpAny _ _ (call (.ref C) []) _ _ _
  obtain ⟨bm, N, nm, qn, bs, hdct, sn, sub, ab, col, dd, k0, k1, k2, k3, k5, mN, hC, hN, hni, T⟩ := exc_obj I.kIn q
  obtain ⟨hp, g, dr, tk, os⟩ := s
  refine wpAny_call_exc_subT F.excBase_ValueError T hC hN hni (fun h' e hm => ?_) (Nat.zero_le _)
  exact L2N.mk_of I hm (raises_own exC tyC) h (I.hok.gone hm.new)
end
/-! ### isinstance of a caught error, with fields or without -/
section
open PySem.W
variable {prog : Program} {w : World} {A : Around} {E : Value → Shared → Prop} {s : Shared} {K : Frag} {x D : Addr} {ox : Obj} {od : Option Obj}
theorem found_data {C : Addr} {name : Str} {a g : Value} (hc : (clsIn K C).isSome = true) (ha : findIn K (.ref C) name = some (some a)) (hg : specialIn K a "__get__" = some (some g)) (ht : takesIn K a = some true) : findObj K C od name = some (.bind g a) := by
  obtain ⟨cd, hc⟩ := Option.isSome_iff_exists.mp hc
  unfold findObj
  rw [hc, Option.bind_some, ha, Option.bind_some]
  simp [hg, ht]
theorem class_read {Q : Option Value → Shared → Prop} (C : ExcC K D) (X : K.In s.heap) (I : InstAt s.heap x ox D od) (h : Q (some (.ref D)) { s with toks := s.toks + 1 }) : wpAny (model prog w) A (getAttr? (.ref x) "__class__") Q E s := by
  have hf : findObj K D od "__class__" = some (.bind (.builtin "getset_descriptor.__get__") (.builtin "object.__class__")) := found_data (by obtain ⟨cd, hc, _⟩ := any_some C.hd; rw [hc]; rfl) C.ha C.hn C.ht
  obtain ⟨hp, g, d, t, os⟩ := s
  have L0 := I.type (M := model prog w)
  have L1 := looks_findIn (M := model prog w) X C.hg
  have L2 := looks_findIn (M := model prog w) X C.hk
  have L3 := looks_find (M := model prog w) X I hf
  have sub : Looks (model prog w) hp (isInstance (.ref x) (.type "BaseException")) true := L0.andThen (looks_subIn X C.hs)
  have hx0 : (false && onTheHeap (Value.builtin "BaseException.__getattribute__")) = false := rfl
  have hx2 : (Value.builtin "BaseException.__getattribute__" == Value.builtin "object.__getattribute__") = false := by decide +kernel
  have hx1 : (onTheHeap (Value.ref D) && Value.builtin "BaseException.__getattribute__" == Value.builtin "object.__getattribute__") = false := by rw [hx2]; rfl
  unfold getAttr? getAttrBy? getAttrBy
  refine wpAny_bind (wpAny_mkText (wpAny_bind (wpAny_attempt (wpAny_holding (wpAny_bind (L0.at (wpAny_bind (L1.at ?_))))))))
  show wpAny _ _ (if (onTheHeap (Value.ref D) && Value.builtin "BaseException.__getattribute__" == Value.builtin "object.__getattribute__") = true then _ else _) _ _ _
  rw [hx1, if_neg Bool.false_ne_true]
  unfold getAttrByItsOwn hookBefore
  refine wpAny_bind ?_
  rw [if_pos (show onTheHeap (Value.ref D) = true from rfl)]
  refine L2.at ?_
  refine wpAny_bind (wpAny_attempt (wpAny_holding ?_))
  unfold callGetattribute
  rw [hx0, if_neg Bool.false_ne_true]
  unfold boundAndCalled
  rw [PySem.F.excAttr_ValueError.ga.bind (.ref x)]
  refine wpAny_bind (wpAny_pure ?_)
  show wpAny _ _ (call (.builtin "BaseException.__getattribute__") [.ref x, .str "__class__" t]) _ _ _
  refine wpAny_call (codeAny_call_builtin PySem.F.excAttr_ValueError.ga.plain PySem.F.entry_bexc_ga ?_)
  refine @check_slot (model prog w) _ _ ⟨hp, g, d, t + 1, os⟩ "BaseException.__getattribute__" "BaseException" "__getattribute__" (.ref x) [.str "__class__" t] [] _ (by decide +kernel) (by decide +kernel) sub (PySem.F.args_bexc_ga (.ref x) (.str "__class__" t)) ?_
  unfold Builtin.«object.__getattribute__»
  refine wpAny_bind (wpAny_of_eq (a := ((Value.ref x : Value), [Value.str "__class__" t])) (by first | rfl | (simp only [slotArgs]; rfl)) ?_)
  refine wpAny_bind (wpAny_pure (wpAny_bind (L0.at (wpAny_bind (L3.at ?_)))))
  show wpAny _ _ (holding [Value.builtin "object.__class__"] (call (.builtin "getset_descriptor.__get__") [.builtin "object.__class__", .ref x, .ref D]) >>= ret) _ _ _
  refine wpAny_bind (wpAny_holding (wpAny_call (class_get (s := ⟨hp, g, d, t + 1, os⟩) (ox := ox) (od := od) X I C.hm ?_)))
  refine wpAny_pure ?_
  show wpAny _ _ (handedOut (.ref D)) _ _ _
  rw [handedOut_of (v := .ref D) rfl]
  first
    | exact wpAny_pure (wpAny_pure h)
    | exact wpAny_pure h
    | exact wpAny_pure (wpAny_bind (wpAny_pure (wpAny_pure h)))
theorem kitx_caught (C : ExcC K D) : KitX K (.ref x) (.ref D) (fun h => InstAt h x ox D od) where
  ty := fun _ _ _ I => I.type
  it := fun _ _ X _ => by
    obtain ⟨cdD, hcD, _⟩ := any_some C.hd
    unfold clsIn at hcD
    split at hcD
    · rename_i c' d' cd' sl' ho
      intro A' Q' E' s' k q
      unfold isType loadHead
      exact wpAny_bind (wpAny_loadPart (k _ _ (X _ _ ho)) (wpAny_pure q))
    · cases hcD
  ne := fun h tp dd its n sl X htp => by
    obtain ⟨cdD, hcD, _⟩ := any_some C.hd
    refine Bool.eq_false_iff.mpr fun q => ?_
    have e : D = tp := Value.ref.inj (beq_iff_eq.mp q)
    subst e
    unfold clsIn at hcD
    split at hcD
    · rename_i c' d' cd' sl' ho
      have z := (X _ _ ho).symm.trans htp
      cases z
    · cases hcD
  ca := fun X I k => class_read C X I k
end
end Vx
namespace Vl
open PySem PySem.Spec PySem.Calls PyProof.Rows L2 Vx
section
variable {X : Cx} {W : WX} {a : Addr} {oe : Obj} {cls : Value} {d : Option Addr} {pn : List (Addr × Obj)} {e T : Expr} {f g : EF} {p pos : Pos}
theorem call_isX (hz : L2N.Zn cls d oe) (hf : ∃ vs, oe.data = .fields vs) : CallR (X.suite a ((a, oe) :: pn)) (.builtin "isinstance") (fun xs H Q => ∃ (c : V) (cv : Value) (b : Bool) (D : Addr), xs = [.ref a, c] ∧ ClsV c cv ∧ cls = .ref D ∧ ExcC X.K D ∧ PySem.W.kitOne X.K (.ref D) cv = some b ∧
    (d = none ∨ ∃ dd fs, d = some dd ∧ H dd = some (.xd fs)) ∧ Q (.bl b) H) := by
  intro pins s σ H xs us Q I r h
  obtain ⟨c, cv, b, D, rfl, hcv, ec, C, e, hd, q⟩ := h
  obtain ⟨u1, u2, rfl, r1, r2⟩ := vals2 r
  have e2 := hcv.eq r2
  subst e2
  obtain rfl : u1 = Value.ref a := r1
  obtain ⟨hget, _⟩ := I.pin (a, oe) (List.mem_append.mpr (.inl List.mem_cons_self))
  obtain ⟨vs, hv⟩ := hf
  have J : ∃ od, PySem.W.InstAt s.heap a oe D od := by
    obtain ⟨h1, h2, _⟩ := hz
    rcases hd with hd | ⟨dd, fs, hd, hH⟩
    · exact ⟨none, hget, by rw [h1, ec], by unfold PySem.W.notCls; rw [hv], by rw [h2, hd]; trivial⟩
    · have hx : ObjOk X.prog X.w H s.heap dd (.xd fs) := I.hok dd _ hH
      obtain ⟨mA, ⟨o, es, ep, ho, r⟩, hr⟩ := hx
      exact ⟨some o, hget, by rw [h1, ec], by unfold PySem.W.notCls; rw [hv], by rw [h2, hd]; exact ho⟩
  obtain ⟨od, J⟩ := J
  exact PySem.W.kia_one (kitx_caught C) I.kIn J e (fun z => nomatch z) fun tk => ⟨.bl b, H, I.kept (t' := tk) fun _ _ z => z, rfl, q⟩
/-- isinstance(e, T), e the caught error -/
def fIsX (ct : Str → Option Bool) (f : EF) : EF := fun e M => rbind (f e M) fun v M1 => match v with
  | .exc x => (match ct x.cls with
    | some b => .ok (.d (.bl b)) M1
    | none => .bad)
  | _ => .bad
theorem ve_isX {c : V} {cv : Value} {ct : Str → Option Bool} (hz : L2N.Zn cls d oe) (hf : ∃ vs, oe.data = .fields vs) (hT : PE (X.suite a ((a, oe) :: pn)) T (tC c)) (hc : ClsV c cv) (hcs : ∀ cn b C, ct cn = some b → X.mg cn = some (.ref C) → ExcC X.K C ∧ PySem.W.kitOne X.K (.ref C) cv = some b)
    (hg : Gl X "isinstance") (hm : X.mg "isinstance" = none) (he : VE (X.suite a ((a, oe) :: pn)) W e f) (hs : starEach (e :: [T]) X.env = (false, eval e X.env) :: starEach [T] X.env := by rfl) (hs2 : starEach (T :: []) X.env = (false, eval T X.env) :: starEach [] X.env := by rfl)
    (hpl : (backTo pos (starEach [T] X.env)).any (·.1) = false := by rfl) : VE (X.suite a ((a, oe) :: pn)) W (.Call (.Name "isinstance" p) [e, T] [] pos) (fIsX ct f) := by
  have eg : gm (X.suite a ((a, oe) :: pn)) = ⟨X.mg, X.K, some (a, cls, d)⟩ := gm_suite hz
  refine pe_imp (pe_callB (X := X.suite a ((a, oe) :: pn)) (call_isX hz hf) hg hm (by decide +kernel) (pa_cons he (pa_cons hT pa_nil hs2) hs) (by decide) (by decide) hs hpl) fun σ H Q h => ?_
  refine lift_bind h fun ρ env M H1 u v es rv q => ?_
  rw [eg] at rv
  cases v with
  | d x => exact q.elim
  | obj k => exact q.elim
  | exc x =>
    obtain ⟨a', cls', dd', eh, eu, rx⟩ := rv
    cases eh
    subst eu
    dsimp only at q
    split at q
    · rename_i b eb
      obtain ⟨C2, m2, c2, z⟩ := rx
      obtain ⟨xc, kb⟩ := hcs _ _ _ eb m2
      refine ⟨c, cv, b, C2, rfl, hc, c2, xc, kb, ?_, q ρ _ H1 .refl es.gs rfl⟩
      rcases z with ⟨_, z⟩ | ⟨dd, fs, ed, eH, _⟩
      · exact .inl z
      · exact .inr ⟨dd, fs, ed, eH⟩
    · exact q.elim
end
section
variable {X : Cx} {W : WX} {x n n' : Str} {e e2 : Expr} {f g : EF} {p pos pos' kp kp2 : Pos} {k : Nat}
theorem ve_xkw1 (cc : ECal1 X.prog X.w X.K X.mg x n) (xf : ∀ C, X.mg x = some (.ref C) → XfC X.K C ∧ PySem.W.findIn X.K (.ref C) n = some none) (hr : Room (k + 1) X.A) (hg : Gl X x) (ha : VE X W e f) (hdb : (x == ("__debug__" : Str)) = false := by decide)
    (hall : (backToKw pos (keywordEach [⟨some n, e, kp⟩] X.env)).all (·.1.isSome) = true := by rfl) (hks : (backToKw pos (keywordEach [⟨some n, e, kp⟩] X.env)).filterMap (·.1) = [n] := by rfl)
    (hpl : ((backTo pos (starEach [] X.env)).any (·.1) || (backToKw pos (keywordEach [⟨some n, e, kp⟩] X.env)).any (·.1.isNone)) = false := by rfl) : VE X W (.Attribute (.Call (.Name x p) [] [⟨some n, e, kp⟩] pos) n pos') f := pe_xkw1 cc xf hr hg ha hdb hall hks hpl
def fSnd (f g : EF) : EF := fun e M => rbind (f e M) fun _ M1 => g e M1
theorem ve_xkw2 {a b : Str} (cc : ECal2 X.prog X.w X.K X.mg x n n') (hab : (a = n ∧ b = n') ∨ (a = n' ∧ b = n)) (xf : ∀ C, X.mg x = some (.ref C) → XfC X.K C ∧ PySem.W.findIn X.K (.ref C) b = some none) (hr : Room (k + 1) X.A) (hg : Gl X x) (ha : VE X W e f) (hb : VE X W e2 g) (hdb : (x == ("__debug__" : Str)) = false := by decide)
    (hall : (backToKw pos (keywordEach [⟨some a, e, kp⟩, ⟨some b, e2, kp2⟩] X.env)).all (·.1.isSome) = true := by rfl) (hks : (backToKw pos (keywordEach [⟨some a, e, kp⟩, ⟨some b, e2, kp2⟩] X.env)).filterMap (·.1) = [a, b] := by rfl)
    (hpl : ((backTo pos (starEach [] X.env)).any (·.1) || (backToKw pos (keywordEach [⟨some a, e, kp⟩, ⟨some b, e2, kp2⟩] X.env)).any (·.1.isNone)) = false := by rfl) : VE X W (.Attribute (.Call (.Name x p) [] [⟨some a, e, kp⟩, ⟨some b, e2, kp2⟩] pos) b pos') (fSnd f g) :=
  pe_imp (pe_xkw2 cc hab xf hr hg ha hb hdb hall hks hpl) fun σ H Q h => lift_bind h fun ρ env M H1 u v es rv q => ⟨ρ, env, M, es, q⟩
/-- raise X() -/
def sRaise0 (x : Str) : SF := fun e M => .er ⟨x, []⟩ e M
structure ECal0 (K : PySem.W.Frag) (mg : Str → Option Value) (x : Str) : Prop where
  ex : ∃ C, mg x = some (.ref C) ∧ PySem.W.excIn K C He.veBase "ValueError.__new__" = true ∧ PySem.W.keepIn K (.ref C) = true ∧ PySem.W.subIn K (.ref C) (.type "BaseException") = some true ∧ PySem.W.typeIn K (.ref C) = some (.type "type")
theorem vs_raise0 (cc : ECal0 X.K X.mg x) (hc : X.calm = true) (tk : L2N.Takes X W) (hg : Gl X x) (hdb : (x == ("__debug__" : Str)) = false := by decide) : VS X W (.Raise (some (.Call (.Name x p) [] [] pos)) none pos') (sRaise0 x) := by
  obtain ⟨C, gC, q, kC, exC, tyC⟩ := cc.ex
  exact ps_imp (L2N.ps_raise hc tk (pmk_x0 gC q kC exC tyC hg hdb)) fun D σ H ⟨ρ, env, M, es, h⟩ => h ρ σ _ _ H .refl es ⟨C, gC, rfl, .inl ⟨rfl, rfl⟩⟩
end
end Vl
set_option Elab.async false
set_option linter.all false
set_option maxRecDepth 100000
set_option maxHeartbeats 4000000
/-! Vx7: what a class of exceptions must say, asked of the head. -/
namespace Vx
open PySem PySem.Spec PyProof.Rows L2 Vl
def excCB (K : PySem.W.Frag) (D : Addr) : Bool := decide (PySem.W.findIn K (.ref D) "__getattribute__" = some (some (.builtin "BaseException.__getattribute__"))) && (decide (PySem.W.findIn K (.ref D) "__getattr__" = some none) && (decide (PySem.W.subIn K (.ref D) (.type "BaseException") = some true) && (PySem.W.hasDictIn K D &&
  (decide (PySem.W.findIn K (.ref D) "__class__" = some (some (.builtin "object.__class__"))) && (decide (PySem.W.specialIn K (.builtin "object.__class__") "__get__" = some (some (.builtin "getset_descriptor.__get__"))) &&
  (decide (PySem.W.takesIn K (.builtin "object.__class__") = some true) && decide (PySem.W.mroIn K D (.type "object") = some true)))))))
theorem excCB_ok {K : PySem.W.Frag} {D : Addr} (h : excCB K D = true) : ExcC K D := by
  obtain ⟨h1, h⟩ := ba2 h
  obtain ⟨h2, h⟩ := ba2 h
  obtain ⟨h3, h⟩ := ba2 h
  obtain ⟨h4, h⟩ := ba2 h
  obtain ⟨h5, h⟩ := ba2 h
  obtain ⟨h6, h⟩ := ba2 h
  obtain ⟨h7, h8⟩ := ba2 h
  exact ⟨of_decide_eq_true h1, of_decide_eq_true h2, of_decide_eq_true h3, h4, of_decide_eq_true h5, of_decide_eq_true h6, of_decide_eq_true h7, of_decide_eq_true h8⟩
def ecal0B (K : PySem.W.Frag) (C : Addr) : Bool := PySem.W.excIn K C He.veBase "ValueError.__new__" && (PySem.W.keepIn K (.ref C) && (decide (PySem.W.subIn K (.ref C) (.type "BaseException") = some true) && decide (PySem.W.typeIn K (.ref C) = some (.type "type"))))
theorem ecal0B_ok {K : PySem.W.Frag} {mg : Str → Option Value} {x : Str} {C : Addr} (hm : mg x = some (.ref C)) (h : ecal0B K C = true) : ECal0 K mg x := by
  obtain ⟨h1, h⟩ := ba2 h
  obtain ⟨h2, h⟩ := ba2 h
  obtain ⟨h3, h4⟩ := ba2 h
  exact ⟨C, hm, h1, h2, of_decide_eq_true h3, of_decide_eq_true h4⟩
end Vx
set_option Elab.async false
set_option linter.all false
set_option maxRecDepth 100000
set_option maxHeartbeats 4000000
/-! The law k09_errors: its defs as functions (printed by gen.py). -/
namespace Wk09
open PySem PySem.Spec PyProof.Rows L2 Vl Vx
abbrev top (i : Nat) : Stmt := PySem.Challenge.pw_hammerkept_k09_errors.main.body.getD i (.Pass ⟨0, 0, 0, 0⟩)
abbrev clsB (st : Stmt) : List Stmt := match st with
  | .ClassDef _ _ _ b _ _ _ _ _ _ _ => b
  | _ => []
abbrev mth (i j : Nat) : Stmt := (clsB (top i)).getD j (.Pass ⟨0, 0, 0, 0⟩)
abbrev fa : List He.Fa := [.free "ValueError", .free "isinstance", .free "range", .free "len", .free "int", .free "tuple", .free "list", .free "str", .free "bool", .free "super", .free "LookupError", .free "RuntimeError", .glo "_law_taken", .glo "_law_pick", .glo "_law_alike", .glo "_law_raised", .glo "law", .glo "HammerError", .glo "BadNumber", .glo "BadName", .glo "BadItem", .glo "BadEvent", .glo "BadNote", .glo "TooMany", .glo "Unknown", .glo "Taken", .glo "Refused", .glo "NothingToUndo", .noat "BadNumber" "value", .noat "BadName" "value", .noat "BadItem" "index", .noat "BadEvent" "value", .noat "BadNote" "line", .noat "TooMany" "limit", .noat "Unknown" "value", .noat "Taken" "value", .noat "Refused" "reason", .noat "Refused" "names", .exm "HammerError" "HammerError" true, .exm "BadNumber" "HammerError" true, .exm "BadName" "HammerError" true, .exm "BadItem" "HammerError" true, .exm "BadEvent" "HammerError" true, .exm "BadNote" "HammerError" true, .exm "TooMany" "HammerError" true, .exm "Unknown" "HammerError" true, .exm "Taken" "HammerError" true, .exm "Refused" "HammerError" true, .exm "NothingToUndo" "HammerError" true]
abbrev dd__law_taken : He.DefD := ⟨("_law_taken", none), "_law_taken", "_law_taken", defArgs (top 13), defBody (top 13), defScope (top 13), [], []⟩
abbrev dd__law_pick : He.DefD := ⟨("_law_pick", none), "_law_pick", "_law_pick", defArgs (top 14), defBody (top 14), defScope (top 14), [], []⟩
abbrev dd__law_alike : He.DefD := ⟨("_law_alike", none), "_law_alike", "_law_alike", defArgs (top 15), defBody (top 15), defScope (top 15), [], []⟩
abbrev dd__law_raised : He.DefD := ⟨("_law_raised", none), "_law_raised", "_law_raised", defArgs (top 16), defBody (top 16), defScope (top 16), [], []⟩
abbrev dd_law : He.DefD := ⟨("law", none), "law", "law", defArgs (top 17), defBody (top 17), defScope (top 17), [], []⟩
abbrev fn : List He.DefD := [dd__law_taken, dd__law_pick, dd__law_alike, dd__law_raised, dd_law]
abbrev xd_BadNumber : XDef := ⟨"BadNumber", "BadNumber.__init__", defArgs (mth 2 0), defBody (mth 2 0), defScope (mth 2 0)⟩
abbrev xd_BadName : XDef := ⟨"BadName", "BadName.__init__", defArgs (mth 3 0), defBody (mth 3 0), defScope (mth 3 0)⟩
abbrev xd_BadItem : XDef := ⟨"BadItem", "BadItem.__init__", defArgs (mth 4 0), defBody (mth 4 0), defScope (mth 4 0)⟩
abbrev xd_BadEvent : XDef := ⟨"BadEvent", "BadEvent.__init__", defArgs (mth 5 0), defBody (mth 5 0), defScope (mth 5 0)⟩
abbrev xd_BadNote : XDef := ⟨"BadNote", "BadNote.__init__", defArgs (mth 6 0), defBody (mth 6 0), defScope (mth 6 0)⟩
abbrev xd_TooMany : XDef := ⟨"TooMany", "TooMany.__init__", defArgs (mth 7 0), defBody (mth 7 0), defScope (mth 7 0)⟩
abbrev xd_Unknown : XDef := ⟨"Unknown", "Unknown.__init__", defArgs (mth 8 0), defBody (mth 8 0), defScope (mth 8 0)⟩
abbrev xd_Taken : XDef := ⟨"Taken", "Taken.__init__", defArgs (mth 9 0), defBody (mth 9 0), defScope (mth 9 0)⟩
abbrev xd_Refused : XDef := ⟨"Refused", "Refused.__init__", defArgs (mth 10 0), defBody (mth 10 0), defScope (mth 10 0)⟩
abbrev xs : List XDef := [xd_BadNumber, xd_BadName, xd_BadItem, xd_BadEvent, xd_BadNote, xd_TooMany, xd_Unknown, xd_Taken, xd_Refused]
abbrev exs (K : PySem.W.Frag) : List Bool := [xfB K (He.ga K "HammerError"), xfB K (He.ga K "BadNumber"), xfB K (He.ga K "BadName"), xfB K (He.ga K "BadItem"), xfB K (He.ga K "BadEvent"), xfB K (He.ga K "BadNote"), xfB K (He.ga K "TooMany"), xfB K (He.ga K "Unknown"), xfB K (He.ga K "Taken"), xfB K (He.ga K "Refused"), xfB K (He.ga K "NothingToUndo"), excCB K (He.ga K "HammerError"), decide (PySem.W.kitOne K (.ref (He.ga K "HammerError")) (.ref (He.ga K "BadNumber")) = some false), excCB K (He.ga K "BadNumber"), decide (PySem.W.kitOne K (.ref (He.ga K "BadNumber")) (.ref (He.ga K "BadNumber")) = some true), excCB K (He.ga K "BadName"), decide (PySem.W.kitOne K (.ref (He.ga K "BadName")) (.ref (He.ga K "BadNumber")) = some false), excCB K (He.ga K "BadItem"), decide (PySem.W.kitOne K (.ref (He.ga K "BadItem")) (.ref (He.ga K "BadNumber")) = some false), excCB K (He.ga K "BadEvent"), decide (PySem.W.kitOne K (.ref (He.ga K "BadEvent")) (.ref (He.ga K "BadNumber")) = some false), excCB K (He.ga K "BadNote"), decide (PySem.W.kitOne K (.ref (He.ga K "BadNote")) (.ref (He.ga K "BadNumber")) = some false), excCB K (He.ga K "TooMany"), decide (PySem.W.kitOne K (.ref (He.ga K "TooMany")) (.ref (He.ga K "BadNumber")) = some false), excCB K (He.ga K "Unknown"), decide (PySem.W.kitOne K (.ref (He.ga K "Unknown")) (.ref (He.ga K "BadNumber")) = some false), excCB K (He.ga K "Taken"), decide (PySem.W.kitOne K (.ref (He.ga K "Taken")) (.ref (He.ga K "BadNumber")) = some false), excCB K (He.ga K "Refused"), decide (PySem.W.kitOne K (.ref (He.ga K "Refused")) (.ref (He.ga K "BadNumber")) = some false), excCB K (He.ga K "NothingToUndo"), decide (PySem.W.kitOne K (.ref (He.ga K "NothingToUndo")) (.ref (He.ga K "BadNumber")) = some false), decide (PySem.W.kitOne K (.ref (He.ga K "HammerError")) (.ref (He.ga K "BadName")) = some false), decide (PySem.W.kitOne K (.ref (He.ga K "BadNumber")) (.ref (He.ga K "BadName")) = some false), decide (PySem.W.kitOne K (.ref (He.ga K "BadName")) (.ref (He.ga K "BadName")) = some true), decide (PySem.W.kitOne K (.ref (He.ga K "BadItem")) (.ref (He.ga K "BadName")) = some false), decide (PySem.W.kitOne K (.ref (He.ga K "BadEvent")) (.ref (He.ga K "BadName")) = some false), decide (PySem.W.kitOne K (.ref (He.ga K "BadNote")) (.ref (He.ga K "BadName")) = some false), decide (PySem.W.kitOne K (.ref (He.ga K "TooMany")) (.ref (He.ga K "BadName")) = some false), decide (PySem.W.kitOne K (.ref (He.ga K "Unknown")) (.ref (He.ga K "BadName")) = some false), decide (PySem.W.kitOne K (.ref (He.ga K "Taken")) (.ref (He.ga K "BadName")) = some false), decide (PySem.W.kitOne K (.ref (He.ga K "Refused")) (.ref (He.ga K "BadName")) = some false), decide (PySem.W.kitOne K (.ref (He.ga K "NothingToUndo")) (.ref (He.ga K "BadName")) = some false), decide (PySem.W.kitOne K (.ref (He.ga K "HammerError")) (.ref (He.ga K "BadItem")) = some false), decide (PySem.W.kitOne K (.ref (He.ga K "BadNumber")) (.ref (He.ga K "BadItem")) = some false), decide (PySem.W.kitOne K (.ref (He.ga K "BadName")) (.ref (He.ga K "BadItem")) = some false), decide (PySem.W.kitOne K (.ref (He.ga K "BadItem")) (.ref (He.ga K "BadItem")) = some true), decide (PySem.W.kitOne K (.ref (He.ga K "BadEvent")) (.ref (He.ga K "BadItem")) = some false), decide (PySem.W.kitOne K (.ref (He.ga K "BadNote")) (.ref (He.ga K "BadItem")) = some false), decide (PySem.W.kitOne K (.ref (He.ga K "TooMany")) (.ref (He.ga K "BadItem")) = some false), decide (PySem.W.kitOne K (.ref (He.ga K "Unknown")) (.ref (He.ga K "BadItem")) = some false), decide (PySem.W.kitOne K (.ref (He.ga K "Taken")) (.ref (He.ga K "BadItem")) = some false), decide (PySem.W.kitOne K (.ref (He.ga K "Refused")) (.ref (He.ga K "BadItem")) = some false), decide (PySem.W.kitOne K (.ref (He.ga K "NothingToUndo")) (.ref (He.ga K "BadItem")) = some false), decide (PySem.W.kitOne K (.ref (He.ga K "HammerError")) (.ref (He.ga K "BadEvent")) = some false), decide (PySem.W.kitOne K (.ref (He.ga K "BadNumber")) (.ref (He.ga K "BadEvent")) = some false), decide (PySem.W.kitOne K (.ref (He.ga K "BadName")) (.ref (He.ga K "BadEvent")) = some false), decide (PySem.W.kitOne K (.ref (He.ga K "BadItem")) (.ref (He.ga K "BadEvent")) = some false), decide (PySem.W.kitOne K (.ref (He.ga K "BadEvent")) (.ref (He.ga K "BadEvent")) = some true), decide (PySem.W.kitOne K (.ref (He.ga K "BadNote")) (.ref (He.ga K "BadEvent")) = some false), decide (PySem.W.kitOne K (.ref (He.ga K "TooMany")) (.ref (He.ga K "BadEvent")) = some false), decide (PySem.W.kitOne K (.ref (He.ga K "Unknown")) (.ref (He.ga K "BadEvent")) = some false), decide (PySem.W.kitOne K (.ref (He.ga K "Taken")) (.ref (He.ga K "BadEvent")) = some false), decide (PySem.W.kitOne K (.ref (He.ga K "Refused")) (.ref (He.ga K "BadEvent")) = some false), decide (PySem.W.kitOne K (.ref (He.ga K "NothingToUndo")) (.ref (He.ga K "BadEvent")) = some false), decide (PySem.W.kitOne K (.ref (He.ga K "HammerError")) (.ref (He.ga K "BadNote")) = some false), decide (PySem.W.kitOne K (.ref (He.ga K "BadNumber")) (.ref (He.ga K "BadNote")) = some false), decide (PySem.W.kitOne K (.ref (He.ga K "BadName")) (.ref (He.ga K "BadNote")) = some false), decide (PySem.W.kitOne K (.ref (He.ga K "BadItem")) (.ref (He.ga K "BadNote")) = some false), decide (PySem.W.kitOne K (.ref (He.ga K "BadEvent")) (.ref (He.ga K "BadNote")) = some false), decide (PySem.W.kitOne K (.ref (He.ga K "BadNote")) (.ref (He.ga K "BadNote")) = some true), decide (PySem.W.kitOne K (.ref (He.ga K "TooMany")) (.ref (He.ga K "BadNote")) = some false), decide (PySem.W.kitOne K (.ref (He.ga K "Unknown")) (.ref (He.ga K "BadNote")) = some false), decide (PySem.W.kitOne K (.ref (He.ga K "Taken")) (.ref (He.ga K "BadNote")) = some false), decide (PySem.W.kitOne K (.ref (He.ga K "Refused")) (.ref (He.ga K "BadNote")) = some false), decide (PySem.W.kitOne K (.ref (He.ga K "NothingToUndo")) (.ref (He.ga K "BadNote")) = some false), decide (PySem.W.kitOne K (.ref (He.ga K "HammerError")) (.type "LookupError") = some false), decide (PySem.W.kitOne K (.ref (He.ga K "BadNumber")) (.type "LookupError") = some false), decide (PySem.W.kitOne K (.ref (He.ga K "BadName")) (.type "LookupError") = some false), decide (PySem.W.kitOne K (.ref (He.ga K "BadItem")) (.type "LookupError") = some false), decide (PySem.W.kitOne K (.ref (He.ga K "BadEvent")) (.type "LookupError") = some false), decide (PySem.W.kitOne K (.ref (He.ga K "BadNote")) (.type "LookupError") = some false), decide (PySem.W.kitOne K (.ref (He.ga K "TooMany")) (.type "LookupError") = some false), decide (PySem.W.kitOne K (.ref (He.ga K "Unknown")) (.type "LookupError") = some false), decide (PySem.W.kitOne K (.ref (He.ga K "Taken")) (.type "LookupError") = some false), decide (PySem.W.kitOne K (.ref (He.ga K "Refused")) (.type "LookupError") = some false), decide (PySem.W.kitOne K (.ref (He.ga K "NothingToUndo")) (.type "LookupError") = some false), decide (PySem.W.kitOne K (.ref (He.ga K "HammerError")) (.type "RuntimeError") = some false), decide (PySem.W.kitOne K (.ref (He.ga K "BadNumber")) (.type "RuntimeError") = some false), decide (PySem.W.kitOne K (.ref (He.ga K "BadName")) (.type "RuntimeError") = some false), decide (PySem.W.kitOne K (.ref (He.ga K "BadItem")) (.type "RuntimeError") = some false), decide (PySem.W.kitOne K (.ref (He.ga K "BadEvent")) (.type "RuntimeError") = some false), decide (PySem.W.kitOne K (.ref (He.ga K "BadNote")) (.type "RuntimeError") = some false), decide (PySem.W.kitOne K (.ref (He.ga K "TooMany")) (.type "RuntimeError") = some false), decide (PySem.W.kitOne K (.ref (He.ga K "Unknown")) (.type "RuntimeError") = some false), decide (PySem.W.kitOne K (.ref (He.ga K "Taken")) (.type "RuntimeError") = some false), decide (PySem.W.kitOne K (.ref (He.ga K "Refused")) (.type "RuntimeError") = some false), decide (PySem.W.kitOne K (.ref (He.ga K "NothingToUndo")) (.type "RuntimeError") = some false), decide (PySem.W.kitOne K (.ref (He.ga K "HammerError")) (.ref (He.ga K "TooMany")) = some false), decide (PySem.W.kitOne K (.ref (He.ga K "BadNumber")) (.ref (He.ga K "TooMany")) = some false), decide (PySem.W.kitOne K (.ref (He.ga K "BadName")) (.ref (He.ga K "TooMany")) = some false), decide (PySem.W.kitOne K (.ref (He.ga K "BadItem")) (.ref (He.ga K "TooMany")) = some false), decide (PySem.W.kitOne K (.ref (He.ga K "BadEvent")) (.ref (He.ga K "TooMany")) = some false), decide (PySem.W.kitOne K (.ref (He.ga K "BadNote")) (.ref (He.ga K "TooMany")) = some false), decide (PySem.W.kitOne K (.ref (He.ga K "TooMany")) (.ref (He.ga K "TooMany")) = some true), decide (PySem.W.kitOne K (.ref (He.ga K "Unknown")) (.ref (He.ga K "TooMany")) = some false), decide (PySem.W.kitOne K (.ref (He.ga K "Taken")) (.ref (He.ga K "TooMany")) = some false), decide (PySem.W.kitOne K (.ref (He.ga K "Refused")) (.ref (He.ga K "TooMany")) = some false), decide (PySem.W.kitOne K (.ref (He.ga K "NothingToUndo")) (.ref (He.ga K "TooMany")) = some false), decide (PySem.W.kitOne K (.ref (He.ga K "HammerError")) (.ref (He.ga K "Unknown")) = some false), decide (PySem.W.kitOne K (.ref (He.ga K "BadNumber")) (.ref (He.ga K "Unknown")) = some false), decide (PySem.W.kitOne K (.ref (He.ga K "BadName")) (.ref (He.ga K "Unknown")) = some false), decide (PySem.W.kitOne K (.ref (He.ga K "BadItem")) (.ref (He.ga K "Unknown")) = some false), decide (PySem.W.kitOne K (.ref (He.ga K "BadEvent")) (.ref (He.ga K "Unknown")) = some false), decide (PySem.W.kitOne K (.ref (He.ga K "BadNote")) (.ref (He.ga K "Unknown")) = some false), decide (PySem.W.kitOne K (.ref (He.ga K "TooMany")) (.ref (He.ga K "Unknown")) = some false), decide (PySem.W.kitOne K (.ref (He.ga K "Unknown")) (.ref (He.ga K "Unknown")) = some true), decide (PySem.W.kitOne K (.ref (He.ga K "Taken")) (.ref (He.ga K "Unknown")) = some false), decide (PySem.W.kitOne K (.ref (He.ga K "Refused")) (.ref (He.ga K "Unknown")) = some false), decide (PySem.W.kitOne K (.ref (He.ga K "NothingToUndo")) (.ref (He.ga K "Unknown")) = some false), decide (PySem.W.kitOne K (.ref (He.ga K "HammerError")) (.ref (He.ga K "Taken")) = some false), decide (PySem.W.kitOne K (.ref (He.ga K "BadNumber")) (.ref (He.ga K "Taken")) = some false), decide (PySem.W.kitOne K (.ref (He.ga K "BadName")) (.ref (He.ga K "Taken")) = some false), decide (PySem.W.kitOne K (.ref (He.ga K "BadItem")) (.ref (He.ga K "Taken")) = some false), decide (PySem.W.kitOne K (.ref (He.ga K "BadEvent")) (.ref (He.ga K "Taken")) = some false), decide (PySem.W.kitOne K (.ref (He.ga K "BadNote")) (.ref (He.ga K "Taken")) = some false), decide (PySem.W.kitOne K (.ref (He.ga K "TooMany")) (.ref (He.ga K "Taken")) = some false), decide (PySem.W.kitOne K (.ref (He.ga K "Unknown")) (.ref (He.ga K "Taken")) = some false), decide (PySem.W.kitOne K (.ref (He.ga K "Taken")) (.ref (He.ga K "Taken")) = some true), decide (PySem.W.kitOne K (.ref (He.ga K "Refused")) (.ref (He.ga K "Taken")) = some false), decide (PySem.W.kitOne K (.ref (He.ga K "NothingToUndo")) (.ref (He.ga K "Taken")) = some false), decide (PySem.W.kitOne K (.ref (He.ga K "HammerError")) (.ref (He.ga K "Refused")) = some false), decide (PySem.W.kitOne K (.ref (He.ga K "BadNumber")) (.ref (He.ga K "Refused")) = some false), decide (PySem.W.kitOne K (.ref (He.ga K "BadName")) (.ref (He.ga K "Refused")) = some false), decide (PySem.W.kitOne K (.ref (He.ga K "BadItem")) (.ref (He.ga K "Refused")) = some false), decide (PySem.W.kitOne K (.ref (He.ga K "BadEvent")) (.ref (He.ga K "Refused")) = some false), decide (PySem.W.kitOne K (.ref (He.ga K "BadNote")) (.ref (He.ga K "Refused")) = some false), decide (PySem.W.kitOne K (.ref (He.ga K "TooMany")) (.ref (He.ga K "Refused")) = some false), decide (PySem.W.kitOne K (.ref (He.ga K "Unknown")) (.ref (He.ga K "Refused")) = some false), decide (PySem.W.kitOne K (.ref (He.ga K "Taken")) (.ref (He.ga K "Refused")) = some false), decide (PySem.W.kitOne K (.ref (He.ga K "Refused")) (.ref (He.ga K "Refused")) = some true), decide (PySem.W.kitOne K (.ref (He.ga K "NothingToUndo")) (.ref (He.ga K "Refused")) = some false), decide (PySem.W.kitOne K (.ref (He.ga K "HammerError")) (.ref (He.ga K "NothingToUndo")) = some false), decide (PySem.W.kitOne K (.ref (He.ga K "BadNumber")) (.ref (He.ga K "NothingToUndo")) = some false), decide (PySem.W.kitOne K (.ref (He.ga K "BadName")) (.ref (He.ga K "NothingToUndo")) = some false), decide (PySem.W.kitOne K (.ref (He.ga K "BadItem")) (.ref (He.ga K "NothingToUndo")) = some false), decide (PySem.W.kitOne K (.ref (He.ga K "BadEvent")) (.ref (He.ga K "NothingToUndo")) = some false), decide (PySem.W.kitOne K (.ref (He.ga K "BadNote")) (.ref (He.ga K "NothingToUndo")) = some false), decide (PySem.W.kitOne K (.ref (He.ga K "TooMany")) (.ref (He.ga K "NothingToUndo")) = some false), decide (PySem.W.kitOne K (.ref (He.ga K "Unknown")) (.ref (He.ga K "NothingToUndo")) = some false), decide (PySem.W.kitOne K (.ref (He.ga K "Taken")) (.ref (He.ga K "NothingToUndo")) = some false), decide (PySem.W.kitOne K (.ref (He.ga K "Refused")) (.ref (He.ga K "NothingToUndo")) = some false), decide (PySem.W.kitOne K (.ref (He.ga K "NothingToUndo")) (.ref (He.ga K "NothingToUndo")) = some true), decide (PySem.W.kitOne K (.ref (He.ga K "HammerError")) (.type "ValueError") = some true), decide (PySem.W.kitOne K (.ref (He.ga K "BadNumber")) (.type "ValueError") = some true), decide (PySem.W.kitOne K (.ref (He.ga K "BadName")) (.type "ValueError") = some true), decide (PySem.W.kitOne K (.ref (He.ga K "BadItem")) (.type "ValueError") = some true), decide (PySem.W.kitOne K (.ref (He.ga K "BadEvent")) (.type "ValueError") = some true), decide (PySem.W.kitOne K (.ref (He.ga K "BadNote")) (.type "ValueError") = some true), decide (PySem.W.kitOne K (.ref (He.ga K "TooMany")) (.type "ValueError") = some true), decide (PySem.W.kitOne K (.ref (He.ga K "Unknown")) (.type "ValueError") = some true), decide (PySem.W.kitOne K (.ref (He.ga K "Taken")) (.type "ValueError") = some true), decide (PySem.W.kitOne K (.ref (He.ga K "Refused")) (.type "ValueError") = some true), decide (PySem.W.kitOne K (.ref (He.ga K "NothingToUndo")) (.type "ValueError") = some true), ecal0B K (He.ga K "NothingToUndo")]
abbrev hd : Hd := ⟨fa, fn, xs, fun K => (exs K).all id, "/claim/cut.py"⟩
structure Ax (K : PySem.W.Frag) (mg : Str → Option Value) (base : Heap) : Prop where
  c : SaysV hd K
  X : K.In base
  G : base.Ns mainGlobals mg
section
variable {P : Program} {w : World} {K : PySem.W.Frag} {mg : Str → Option Value} {base : Heap}
theorem Ax.e (z : Ax K mg base) (i : Nat) {b : Bool} (h : (exs K)[i]? = some b) : b = true := List.all_eq_true.mp z.c.ex b (List.mem_of_getElem? h)
theorem g_ValueError (z : Ax K mg base) : mg "ValueError" = none := He.free_ok z.X z.G (z.c.d.fact 0 rfl)
theorem g_isinstance (z : Ax K mg base) : mg "isinstance" = none := He.free_ok z.X z.G (z.c.d.fact 1 rfl)
theorem g_range (z : Ax K mg base) : mg "range" = none := He.free_ok z.X z.G (z.c.d.fact 2 rfl)
theorem g_len (z : Ax K mg base) : mg "len" = none := He.free_ok z.X z.G (z.c.d.fact 3 rfl)
theorem g_int (z : Ax K mg base) : mg "int" = none := He.free_ok z.X z.G (z.c.d.fact 4 rfl)
theorem g_tuple (z : Ax K mg base) : mg "tuple" = none := He.free_ok z.X z.G (z.c.d.fact 5 rfl)
theorem g_list (z : Ax K mg base) : mg "list" = none := He.free_ok z.X z.G (z.c.d.fact 6 rfl)
theorem g_str (z : Ax K mg base) : mg "str" = none := He.free_ok z.X z.G (z.c.d.fact 7 rfl)
theorem g_bool (z : Ax K mg base) : mg "bool" = none := He.free_ok z.X z.G (z.c.d.fact 8 rfl)
theorem g_super (z : Ax K mg base) : mg "super" = none := He.free_ok z.X z.G (z.c.d.fact 9 rfl)
theorem g_LookupError (z : Ax K mg base) : mg "LookupError" = none := He.free_ok z.X z.G (z.c.d.fact 10 rfl)
theorem g_RuntimeError (z : Ax K mg base) : mg "RuntimeError" = none := He.free_ok z.X z.G (z.c.d.fact 11 rfl)
theorem g__law_taken (z : Ax K mg base) : mg "_law_taken" = some (.ref (He.ga K "_law_taken")) := He.glo_ok z.X z.G (z.c.d.fact 12 rfl)
theorem g__law_pick (z : Ax K mg base) : mg "_law_pick" = some (.ref (He.ga K "_law_pick")) := He.glo_ok z.X z.G (z.c.d.fact 13 rfl)
theorem g__law_alike (z : Ax K mg base) : mg "_law_alike" = some (.ref (He.ga K "_law_alike")) := He.glo_ok z.X z.G (z.c.d.fact 14 rfl)
theorem g__law_raised (z : Ax K mg base) : mg "_law_raised" = some (.ref (He.ga K "_law_raised")) := He.glo_ok z.X z.G (z.c.d.fact 15 rfl)
theorem g_law (z : Ax K mg base) : mg "law" = some (.ref (He.ga K "law")) := He.glo_ok z.X z.G (z.c.d.fact 16 rfl)
theorem g_HammerError (z : Ax K mg base) : mg "HammerError" = some (.ref (He.ga K "HammerError")) := He.glo_ok z.X z.G (z.c.d.fact 17 rfl)
theorem g_BadNumber (z : Ax K mg base) : mg "BadNumber" = some (.ref (He.ga K "BadNumber")) := He.glo_ok z.X z.G (z.c.d.fact 18 rfl)
theorem g_BadName (z : Ax K mg base) : mg "BadName" = some (.ref (He.ga K "BadName")) := He.glo_ok z.X z.G (z.c.d.fact 19 rfl)
theorem g_BadItem (z : Ax K mg base) : mg "BadItem" = some (.ref (He.ga K "BadItem")) := He.glo_ok z.X z.G (z.c.d.fact 20 rfl)
theorem g_BadEvent (z : Ax K mg base) : mg "BadEvent" = some (.ref (He.ga K "BadEvent")) := He.glo_ok z.X z.G (z.c.d.fact 21 rfl)
theorem g_BadNote (z : Ax K mg base) : mg "BadNote" = some (.ref (He.ga K "BadNote")) := He.glo_ok z.X z.G (z.c.d.fact 22 rfl)
theorem g_TooMany (z : Ax K mg base) : mg "TooMany" = some (.ref (He.ga K "TooMany")) := He.glo_ok z.X z.G (z.c.d.fact 23 rfl)
theorem g_Unknown (z : Ax K mg base) : mg "Unknown" = some (.ref (He.ga K "Unknown")) := He.glo_ok z.X z.G (z.c.d.fact 24 rfl)
theorem g_Taken (z : Ax K mg base) : mg "Taken" = some (.ref (He.ga K "Taken")) := He.glo_ok z.X z.G (z.c.d.fact 25 rfl)
theorem g_Refused (z : Ax K mg base) : mg "Refused" = some (.ref (He.ga K "Refused")) := He.glo_ok z.X z.G (z.c.d.fact 26 rfl)
theorem g_NothingToUndo (z : Ax K mg base) : mg "NothingToUndo" = some (.ref (He.ga K "NothingToUndo")) := He.glo_ok z.X z.G (z.c.d.fact 27 rfl)
def ct_int (_ : Str) : Option Bool := none
theorem ac_int (_ : Ax K mg base) : ∀ cn b, ct_int cn = some b → AskC K mg cn (.type "int") b := fun cn b h => nomatch h
def ct_bool (_ : Str) : Option Bool := none
theorem ac_bool (_ : Ax K mg base) : ∀ cn b, ct_bool cn = some b → AskC K mg cn (.type "bool") b := fun cn b h => nomatch h
def ct_str (_ : Str) : Option Bool := none
theorem ac_str (_ : Ax K mg base) : ∀ cn b, ct_str cn = some b → AskC K mg cn (.type "str") b := fun cn b h => nomatch h
def ct_list (_ : Str) : Option Bool := none
theorem ac_list (_ : Ax K mg base) : ∀ cn b, ct_list cn = some b → AskC K mg cn (.type "list") b := fun cn b h => nomatch h
def ct_tuple (_ : Str) : Option Bool := none
theorem ac_tuple (_ : Ax K mg base) : ∀ cn b, ct_tuple cn = some b → AskC K mg cn (.type "tuple") b := fun cn b h => nomatch h
def ct_dict (_ : Str) : Option Bool := none
theorem ac_dict (_ : Ax K mg base) : ∀ cn b, ct_dict cn = some b → AskC K mg cn (.type "dict") b := fun cn b h => nomatch h
theorem ec_BadNumber (z : Ax K mg base) : ECal1 PySem.Challenge.pw_hammerkept_k09_errors w K mg "BadNumber" "value" := ecal1_of (g_BadNumber z) (z.c.x 0 rfl).1 (z.c.x 0 rfl).2 (g_super z) (by rfl) (by kernel_rfl) (by kernel_rfl) (by rfl) (by rfl) (by decide) (by decide) (fun _ _ _ _ _ _ _ _ _ _ => rfl) (fun _ _ _ _ _ _ _ _ _ _ => rfl) (by rfl) (by rfl) (by rfl) (by rfl) (by rfl) (by decide +kernel) (by rfl) (by rfl) (He.noat_ok (z.c.d.fact 28 rfl)) (fun _ => ⟨_, rfl⟩)
theorem ec_BadName (z : Ax K mg base) : ECal1 PySem.Challenge.pw_hammerkept_k09_errors w K mg "BadName" "value" := ecal1_of (g_BadName z) (z.c.x 1 rfl).1 (z.c.x 1 rfl).2 (g_super z) (by rfl) (by kernel_rfl) (by kernel_rfl) (by rfl) (by rfl) (by decide) (by decide) (fun _ _ _ _ _ _ _ _ _ _ => rfl) (fun _ _ _ _ _ _ _ _ _ _ => rfl) (by rfl) (by rfl) (by rfl) (by rfl) (by rfl) (by decide +kernel) (by rfl) (by rfl) (He.noat_ok (z.c.d.fact 29 rfl)) (fun _ => ⟨_, rfl⟩)
theorem ec_BadItem (z : Ax K mg base) : ECal1 PySem.Challenge.pw_hammerkept_k09_errors w K mg "BadItem" "index" := ecal1_of (g_BadItem z) (z.c.x 2 rfl).1 (z.c.x 2 rfl).2 (g_super z) (by rfl) (by kernel_rfl) (by kernel_rfl) (by rfl) (by rfl) (by decide) (by decide) (fun _ _ _ _ _ _ _ _ _ _ => rfl) (fun _ _ _ _ _ _ _ _ _ _ => rfl) (by rfl) (by rfl) (by rfl) (by rfl) (by rfl) (by decide +kernel) (by rfl) (by rfl) (He.noat_ok (z.c.d.fact 30 rfl)) (fun _ => ⟨_, rfl⟩)
theorem ec_BadEvent (z : Ax K mg base) : ECal1 PySem.Challenge.pw_hammerkept_k09_errors w K mg "BadEvent" "value" := ecal1_of (g_BadEvent z) (z.c.x 3 rfl).1 (z.c.x 3 rfl).2 (g_super z) (by rfl) (by kernel_rfl) (by kernel_rfl) (by rfl) (by rfl) (by decide) (by decide) (fun _ _ _ _ _ _ _ _ _ _ => rfl) (fun _ _ _ _ _ _ _ _ _ _ => rfl) (by rfl) (by rfl) (by rfl) (by rfl) (by rfl) (by decide +kernel) (by rfl) (by rfl) (He.noat_ok (z.c.d.fact 31 rfl)) (fun _ => ⟨_, rfl⟩)
theorem ec_BadNote (z : Ax K mg base) : ECal1 PySem.Challenge.pw_hammerkept_k09_errors w K mg "BadNote" "line" := ecal1_of (g_BadNote z) (z.c.x 4 rfl).1 (z.c.x 4 rfl).2 (g_super z) (by rfl) (by kernel_rfl) (by kernel_rfl) (by rfl) (by rfl) (by decide) (by decide) (fun _ _ _ _ _ _ _ _ _ _ => rfl) (fun _ _ _ _ _ _ _ _ _ _ => rfl) (by rfl) (by rfl) (by rfl) (by rfl) (by rfl) (by decide +kernel) (by rfl) (by rfl) (He.noat_ok (z.c.d.fact 32 rfl)) (fun _ => ⟨_, rfl⟩)
theorem ec_TooMany (z : Ax K mg base) : ECal1 PySem.Challenge.pw_hammerkept_k09_errors w K mg "TooMany" "limit" := ecal1_of (g_TooMany z) (z.c.x 5 rfl).1 (z.c.x 5 rfl).2 (g_super z) (by rfl) (by kernel_rfl) (by kernel_rfl) (by rfl) (by rfl) (by decide) (by decide) (fun _ _ _ _ _ _ _ _ _ _ => rfl) (fun _ _ _ _ _ _ _ _ _ _ => rfl) (by rfl) (by rfl) (by rfl) (by rfl) (by rfl) (by decide +kernel) (by rfl) (by rfl) (He.noat_ok (z.c.d.fact 33 rfl)) (fun _ => ⟨_, rfl⟩)
theorem ec_Unknown (z : Ax K mg base) : ECal1 PySem.Challenge.pw_hammerkept_k09_errors w K mg "Unknown" "value" := ecal1_of (g_Unknown z) (z.c.x 6 rfl).1 (z.c.x 6 rfl).2 (g_super z) (by rfl) (by kernel_rfl) (by kernel_rfl) (by rfl) (by rfl) (by decide) (by decide) (fun _ _ _ _ _ _ _ _ _ _ => rfl) (fun _ _ _ _ _ _ _ _ _ _ => rfl) (by rfl) (by rfl) (by rfl) (by rfl) (by rfl) (by decide +kernel) (by rfl) (by rfl) (He.noat_ok (z.c.d.fact 34 rfl)) (fun _ => ⟨_, rfl⟩)
theorem ec_Taken (z : Ax K mg base) : ECal1 PySem.Challenge.pw_hammerkept_k09_errors w K mg "Taken" "value" := ecal1_of (g_Taken z) (z.c.x 7 rfl).1 (z.c.x 7 rfl).2 (g_super z) (by rfl) (by kernel_rfl) (by kernel_rfl) (by rfl) (by rfl) (by decide) (by decide) (fun _ _ _ _ _ _ _ _ _ _ => rfl) (fun _ _ _ _ _ _ _ _ _ _ => rfl) (by rfl) (by rfl) (by rfl) (by rfl) (by rfl) (by decide +kernel) (by rfl) (by rfl) (He.noat_ok (z.c.d.fact 35 rfl)) (fun _ => ⟨_, rfl⟩)
theorem ec_Refused (z : Ax K mg base) : ECal2 PySem.Challenge.pw_hammerkept_k09_errors w K mg "Refused" "reason" "names" := ecal2_of (g_Refused z) (z.c.x 8 rfl).1 (z.c.x 8 rfl).2 (g_super z) (by rfl) (by kernel_rfl) (by kernel_rfl) (by rfl) (by rfl) (by decide) (by decide) (by decide) (by decide) (by decide) (fun _ _ _ _ _ _ _ _ _ _ _ => rfl) (fun _ _ _ _ _ _ _ _ _ _ _ => rfl) (fun _ _ _ _ _ _ _ _ _ _ _ => rfl) (by rfl) (by rfl) (by rfl) (by rfl) (by rfl) (by rfl) (by decide +kernel) (by rfl) (by rfl) (He.noat_ok (z.c.d.fact 36 rfl)) (He.noat_ok (z.c.d.fact 37 rfl)) (fun _ => ⟨_, rfl⟩)
theorem ec_NothingToUndo (z : Ax K mg base) : ECal0 K mg "NothingToUndo" := ecal0B_ok (g_NothingToUndo z) (z.e 165 rfl)
theorem xk_BadNumber_value (z : Ax K mg base) : ∀ C, mg "BadNumber" = some (.ref C) → XfC K C ∧ PySem.W.findIn K (.ref C) "value" = some none := fun C hm => by
  rw [g_BadNumber z] at hm
  cases hm
  exact ⟨xfB_ok (z.e 1 rfl), He.noat_ok (z.c.d.fact 28 rfl)⟩
theorem xk_BadName_value (z : Ax K mg base) : ∀ C, mg "BadName" = some (.ref C) → XfC K C ∧ PySem.W.findIn K (.ref C) "value" = some none := fun C hm => by
  rw [g_BadName z] at hm
  cases hm
  exact ⟨xfB_ok (z.e 2 rfl), He.noat_ok (z.c.d.fact 29 rfl)⟩
theorem xk_BadItem_index (z : Ax K mg base) : ∀ C, mg "BadItem" = some (.ref C) → XfC K C ∧ PySem.W.findIn K (.ref C) "index" = some none := fun C hm => by
  rw [g_BadItem z] at hm
  cases hm
  exact ⟨xfB_ok (z.e 3 rfl), He.noat_ok (z.c.d.fact 30 rfl)⟩
theorem xk_BadEvent_value (z : Ax K mg base) : ∀ C, mg "BadEvent" = some (.ref C) → XfC K C ∧ PySem.W.findIn K (.ref C) "value" = some none := fun C hm => by
  rw [g_BadEvent z] at hm
  cases hm
  exact ⟨xfB_ok (z.e 4 rfl), He.noat_ok (z.c.d.fact 31 rfl)⟩
theorem xk_BadNote_line (z : Ax K mg base) : ∀ C, mg "BadNote" = some (.ref C) → XfC K C ∧ PySem.W.findIn K (.ref C) "line" = some none := fun C hm => by
  rw [g_BadNote z] at hm
  cases hm
  exact ⟨xfB_ok (z.e 5 rfl), He.noat_ok (z.c.d.fact 32 rfl)⟩
theorem xk_TooMany_limit (z : Ax K mg base) : ∀ C, mg "TooMany" = some (.ref C) → XfC K C ∧ PySem.W.findIn K (.ref C) "limit" = some none := fun C hm => by
  rw [g_TooMany z] at hm
  cases hm
  exact ⟨xfB_ok (z.e 6 rfl), He.noat_ok (z.c.d.fact 33 rfl)⟩
theorem xk_Unknown_value (z : Ax K mg base) : ∀ C, mg "Unknown" = some (.ref C) → XfC K C ∧ PySem.W.findIn K (.ref C) "value" = some none := fun C hm => by
  rw [g_Unknown z] at hm
  cases hm
  exact ⟨xfB_ok (z.e 7 rfl), He.noat_ok (z.c.d.fact 34 rfl)⟩
theorem xk_Taken_value (z : Ax K mg base) : ∀ C, mg "Taken" = some (.ref C) → XfC K C ∧ PySem.W.findIn K (.ref C) "value" = some none := fun C hm => by
  rw [g_Taken z] at hm
  cases hm
  exact ⟨xfB_ok (z.e 8 rfl), He.noat_ok (z.c.d.fact 35 rfl)⟩
theorem xk_Refused_names (z : Ax K mg base) : ∀ C, mg "Refused" = some (.ref C) → XfC K C ∧ PySem.W.findIn K (.ref C) "names" = some none := fun C hm => by
  rw [g_Refused z] at hm
  cases hm
  exact ⟨xfB_ok (z.e 9 rfl), He.noat_ok (z.c.d.fact 37 rfl)⟩
theorem xk_Refused_reason (z : Ax K mg base) : ∀ C, mg "Refused" = some (.ref C) → XfC K C ∧ PySem.W.findIn K (.ref C) "reason" = some none := fun C hm => by
  rw [g_Refused z] at hm
  cases hm
  exact ⟨xfB_ok (z.e 9 rfl), He.noat_ok (z.c.d.fact 36 rfl)⟩
def xi_HammerError_BadNumber (x : Str) : Option Bool := if x = "HammerError" then some false else if x = "BadNumber" then some true else if x = "BadName" then some false else if x = "BadItem" then some false else if x = "BadEvent" then some false else if x = "BadNote" then some false else if x = "TooMany" then some false else if x = "Unknown" then some false else if x = "Taken" then some false else if x = "Refused" then some false else if x = "NothingToUndo" then some false else none
theorem xi_HammerError_BadNumber_ok (z : Ax K mg base) : ∀ x b C, xi_HammerError_BadNumber x = some b → mg x = some (.ref C) → ExcC K C ∧ PySem.W.kitOne K (.ref C) (.ref (He.ga K "BadNumber")) = some b := fun x b C h hm => by
  unfold xi_HammerError_BadNumber at h
  split at h
  · rename_i e
    cases h
    subst e
    rw [g_HammerError z] at hm
    cases hm
    exact ⟨excCB_ok (z.e 11 rfl), of_decide_eq_true (z.e 12 rfl)⟩
  split at h
  · rename_i e
    cases h
    subst e
    rw [g_BadNumber z] at hm
    cases hm
    exact ⟨excCB_ok (z.e 13 rfl), of_decide_eq_true (z.e 14 rfl)⟩
  split at h
  · rename_i e
    cases h
    subst e
    rw [g_BadName z] at hm
    cases hm
    exact ⟨excCB_ok (z.e 15 rfl), of_decide_eq_true (z.e 16 rfl)⟩
  split at h
  · rename_i e
    cases h
    subst e
    rw [g_BadItem z] at hm
    cases hm
    exact ⟨excCB_ok (z.e 17 rfl), of_decide_eq_true (z.e 18 rfl)⟩
  split at h
  · rename_i e
    cases h
    subst e
    rw [g_BadEvent z] at hm
    cases hm
    exact ⟨excCB_ok (z.e 19 rfl), of_decide_eq_true (z.e 20 rfl)⟩
  split at h
  · rename_i e
    cases h
    subst e
    rw [g_BadNote z] at hm
    cases hm
    exact ⟨excCB_ok (z.e 21 rfl), of_decide_eq_true (z.e 22 rfl)⟩
  split at h
  · rename_i e
    cases h
    subst e
    rw [g_TooMany z] at hm
    cases hm
    exact ⟨excCB_ok (z.e 23 rfl), of_decide_eq_true (z.e 24 rfl)⟩
  split at h
  · rename_i e
    cases h
    subst e
    rw [g_Unknown z] at hm
    cases hm
    exact ⟨excCB_ok (z.e 25 rfl), of_decide_eq_true (z.e 26 rfl)⟩
  split at h
  · rename_i e
    cases h
    subst e
    rw [g_Taken z] at hm
    cases hm
    exact ⟨excCB_ok (z.e 27 rfl), of_decide_eq_true (z.e 28 rfl)⟩
  split at h
  · rename_i e
    cases h
    subst e
    rw [g_Refused z] at hm
    cases hm
    exact ⟨excCB_ok (z.e 29 rfl), of_decide_eq_true (z.e 30 rfl)⟩
  split at h
  · rename_i e
    cases h
    subst e
    rw [g_NothingToUndo z] at hm
    cases hm
    exact ⟨excCB_ok (z.e 31 rfl), of_decide_eq_true (z.e 32 rfl)⟩
  cases h
def xi_HammerError_BadName (x : Str) : Option Bool := if x = "HammerError" then some false else if x = "BadNumber" then some false else if x = "BadName" then some true else if x = "BadItem" then some false else if x = "BadEvent" then some false else if x = "BadNote" then some false else if x = "TooMany" then some false else if x = "Unknown" then some false else if x = "Taken" then some false else if x = "Refused" then some false else if x = "NothingToUndo" then some false else none
theorem xi_HammerError_BadName_ok (z : Ax K mg base) : ∀ x b C, xi_HammerError_BadName x = some b → mg x = some (.ref C) → ExcC K C ∧ PySem.W.kitOne K (.ref C) (.ref (He.ga K "BadName")) = some b := fun x b C h hm => by
  unfold xi_HammerError_BadName at h
  split at h
  · rename_i e
    cases h
    subst e
    rw [g_HammerError z] at hm
    cases hm
    exact ⟨excCB_ok (z.e 11 rfl), of_decide_eq_true (z.e 33 rfl)⟩
  split at h
  · rename_i e
    cases h
    subst e
    rw [g_BadNumber z] at hm
    cases hm
    exact ⟨excCB_ok (z.e 13 rfl), of_decide_eq_true (z.e 34 rfl)⟩
  split at h
  · rename_i e
    cases h
    subst e
    rw [g_BadName z] at hm
    cases hm
    exact ⟨excCB_ok (z.e 15 rfl), of_decide_eq_true (z.e 35 rfl)⟩
  split at h
  · rename_i e
    cases h
    subst e
    rw [g_BadItem z] at hm
    cases hm
    exact ⟨excCB_ok (z.e 17 rfl), of_decide_eq_true (z.e 36 rfl)⟩
  split at h
  · rename_i e
    cases h
    subst e
    rw [g_BadEvent z] at hm
    cases hm
    exact ⟨excCB_ok (z.e 19 rfl), of_decide_eq_true (z.e 37 rfl)⟩
  split at h
  · rename_i e
    cases h
    subst e
    rw [g_BadNote z] at hm
    cases hm
    exact ⟨excCB_ok (z.e 21 rfl), of_decide_eq_true (z.e 38 rfl)⟩
  split at h
  · rename_i e
    cases h
    subst e
    rw [g_TooMany z] at hm
    cases hm
    exact ⟨excCB_ok (z.e 23 rfl), of_decide_eq_true (z.e 39 rfl)⟩
  split at h
  · rename_i e
    cases h
    subst e
    rw [g_Unknown z] at hm
    cases hm
    exact ⟨excCB_ok (z.e 25 rfl), of_decide_eq_true (z.e 40 rfl)⟩
  split at h
  · rename_i e
    cases h
    subst e
    rw [g_Taken z] at hm
    cases hm
    exact ⟨excCB_ok (z.e 27 rfl), of_decide_eq_true (z.e 41 rfl)⟩
  split at h
  · rename_i e
    cases h
    subst e
    rw [g_Refused z] at hm
    cases hm
    exact ⟨excCB_ok (z.e 29 rfl), of_decide_eq_true (z.e 42 rfl)⟩
  split at h
  · rename_i e
    cases h
    subst e
    rw [g_NothingToUndo z] at hm
    cases hm
    exact ⟨excCB_ok (z.e 31 rfl), of_decide_eq_true (z.e 43 rfl)⟩
  cases h
def xi_HammerError_BadItem (x : Str) : Option Bool := if x = "HammerError" then some false else if x = "BadNumber" then some false else if x = "BadName" then some false else if x = "BadItem" then some true else if x = "BadEvent" then some false else if x = "BadNote" then some false else if x = "TooMany" then some false else if x = "Unknown" then some false else if x = "Taken" then some false else if x = "Refused" then some false else if x = "NothingToUndo" then some false else none
theorem xi_HammerError_BadItem_ok (z : Ax K mg base) : ∀ x b C, xi_HammerError_BadItem x = some b → mg x = some (.ref C) → ExcC K C ∧ PySem.W.kitOne K (.ref C) (.ref (He.ga K "BadItem")) = some b := fun x b C h hm => by
  unfold xi_HammerError_BadItem at h
  split at h
  · rename_i e
    cases h
    subst e
    rw [g_HammerError z] at hm
    cases hm
    exact ⟨excCB_ok (z.e 11 rfl), of_decide_eq_true (z.e 44 rfl)⟩
  split at h
  · rename_i e
    cases h
    subst e
    rw [g_BadNumber z] at hm
    cases hm
    exact ⟨excCB_ok (z.e 13 rfl), of_decide_eq_true (z.e 45 rfl)⟩
  split at h
  · rename_i e
    cases h
    subst e
    rw [g_BadName z] at hm
    cases hm
    exact ⟨excCB_ok (z.e 15 rfl), of_decide_eq_true (z.e 46 rfl)⟩
  split at h
  · rename_i e
    cases h
    subst e
    rw [g_BadItem z] at hm
    cases hm
    exact ⟨excCB_ok (z.e 17 rfl), of_decide_eq_true (z.e 47 rfl)⟩
  split at h
  · rename_i e
    cases h
    subst e
    rw [g_BadEvent z] at hm
    cases hm
    exact ⟨excCB_ok (z.e 19 rfl), of_decide_eq_true (z.e 48 rfl)⟩
  split at h
  · rename_i e
    cases h
    subst e
    rw [g_BadNote z] at hm
    cases hm
    exact ⟨excCB_ok (z.e 21 rfl), of_decide_eq_true (z.e 49 rfl)⟩
  split at h
  · rename_i e
    cases h
    subst e
    rw [g_TooMany z] at hm
    cases hm
    exact ⟨excCB_ok (z.e 23 rfl), of_decide_eq_true (z.e 50 rfl)⟩
  split at h
  · rename_i e
    cases h
    subst e
    rw [g_Unknown z] at hm
    cases hm
    exact ⟨excCB_ok (z.e 25 rfl), of_decide_eq_true (z.e 51 rfl)⟩
  split at h
  · rename_i e
    cases h
    subst e
    rw [g_Taken z] at hm
    cases hm
    exact ⟨excCB_ok (z.e 27 rfl), of_decide_eq_true (z.e 52 rfl)⟩
  split at h
  · rename_i e
    cases h
    subst e
    rw [g_Refused z] at hm
    cases hm
    exact ⟨excCB_ok (z.e 29 rfl), of_decide_eq_true (z.e 53 rfl)⟩
  split at h
  · rename_i e
    cases h
    subst e
    rw [g_NothingToUndo z] at hm
    cases hm
    exact ⟨excCB_ok (z.e 31 rfl), of_decide_eq_true (z.e 54 rfl)⟩
  cases h
def xi_HammerError_BadEvent (x : Str) : Option Bool := if x = "HammerError" then some false else if x = "BadNumber" then some false else if x = "BadName" then some false else if x = "BadItem" then some false else if x = "BadEvent" then some true else if x = "BadNote" then some false else if x = "TooMany" then some false else if x = "Unknown" then some false else if x = "Taken" then some false else if x = "Refused" then some false else if x = "NothingToUndo" then some false else none
theorem xi_HammerError_BadEvent_ok (z : Ax K mg base) : ∀ x b C, xi_HammerError_BadEvent x = some b → mg x = some (.ref C) → ExcC K C ∧ PySem.W.kitOne K (.ref C) (.ref (He.ga K "BadEvent")) = some b := fun x b C h hm => by
  unfold xi_HammerError_BadEvent at h
  split at h
  · rename_i e
    cases h
    subst e
    rw [g_HammerError z] at hm
    cases hm
    exact ⟨excCB_ok (z.e 11 rfl), of_decide_eq_true (z.e 55 rfl)⟩
  split at h
  · rename_i e
    cases h
    subst e
    rw [g_BadNumber z] at hm
    cases hm
    exact ⟨excCB_ok (z.e 13 rfl), of_decide_eq_true (z.e 56 rfl)⟩
  split at h
  · rename_i e
    cases h
    subst e
    rw [g_BadName z] at hm
    cases hm
    exact ⟨excCB_ok (z.e 15 rfl), of_decide_eq_true (z.e 57 rfl)⟩
  split at h
  · rename_i e
    cases h
    subst e
    rw [g_BadItem z] at hm
    cases hm
    exact ⟨excCB_ok (z.e 17 rfl), of_decide_eq_true (z.e 58 rfl)⟩
  split at h
  · rename_i e
    cases h
    subst e
    rw [g_BadEvent z] at hm
    cases hm
    exact ⟨excCB_ok (z.e 19 rfl), of_decide_eq_true (z.e 59 rfl)⟩
  split at h
  · rename_i e
    cases h
    subst e
    rw [g_BadNote z] at hm
    cases hm
    exact ⟨excCB_ok (z.e 21 rfl), of_decide_eq_true (z.e 60 rfl)⟩
  split at h
  · rename_i e
    cases h
    subst e
    rw [g_TooMany z] at hm
    cases hm
    exact ⟨excCB_ok (z.e 23 rfl), of_decide_eq_true (z.e 61 rfl)⟩
  split at h
  · rename_i e
    cases h
    subst e
    rw [g_Unknown z] at hm
    cases hm
    exact ⟨excCB_ok (z.e 25 rfl), of_decide_eq_true (z.e 62 rfl)⟩
  split at h
  · rename_i e
    cases h
    subst e
    rw [g_Taken z] at hm
    cases hm
    exact ⟨excCB_ok (z.e 27 rfl), of_decide_eq_true (z.e 63 rfl)⟩
  split at h
  · rename_i e
    cases h
    subst e
    rw [g_Refused z] at hm
    cases hm
    exact ⟨excCB_ok (z.e 29 rfl), of_decide_eq_true (z.e 64 rfl)⟩
  split at h
  · rename_i e
    cases h
    subst e
    rw [g_NothingToUndo z] at hm
    cases hm
    exact ⟨excCB_ok (z.e 31 rfl), of_decide_eq_true (z.e 65 rfl)⟩
  cases h
def xi_HammerError_BadNote (x : Str) : Option Bool := if x = "HammerError" then some false else if x = "BadNumber" then some false else if x = "BadName" then some false else if x = "BadItem" then some false else if x = "BadEvent" then some false else if x = "BadNote" then some true else if x = "TooMany" then some false else if x = "Unknown" then some false else if x = "Taken" then some false else if x = "Refused" then some false else if x = "NothingToUndo" then some false else none
theorem xi_HammerError_BadNote_ok (z : Ax K mg base) : ∀ x b C, xi_HammerError_BadNote x = some b → mg x = some (.ref C) → ExcC K C ∧ PySem.W.kitOne K (.ref C) (.ref (He.ga K "BadNote")) = some b := fun x b C h hm => by
  unfold xi_HammerError_BadNote at h
  split at h
  · rename_i e
    cases h
    subst e
    rw [g_HammerError z] at hm
    cases hm
    exact ⟨excCB_ok (z.e 11 rfl), of_decide_eq_true (z.e 66 rfl)⟩
  split at h
  · rename_i e
    cases h
    subst e
    rw [g_BadNumber z] at hm
    cases hm
    exact ⟨excCB_ok (z.e 13 rfl), of_decide_eq_true (z.e 67 rfl)⟩
  split at h
  · rename_i e
    cases h
    subst e
    rw [g_BadName z] at hm
    cases hm
    exact ⟨excCB_ok (z.e 15 rfl), of_decide_eq_true (z.e 68 rfl)⟩
  split at h
  · rename_i e
    cases h
    subst e
    rw [g_BadItem z] at hm
    cases hm
    exact ⟨excCB_ok (z.e 17 rfl), of_decide_eq_true (z.e 69 rfl)⟩
  split at h
  · rename_i e
    cases h
    subst e
    rw [g_BadEvent z] at hm
    cases hm
    exact ⟨excCB_ok (z.e 19 rfl), of_decide_eq_true (z.e 70 rfl)⟩
  split at h
  · rename_i e
    cases h
    subst e
    rw [g_BadNote z] at hm
    cases hm
    exact ⟨excCB_ok (z.e 21 rfl), of_decide_eq_true (z.e 71 rfl)⟩
  split at h
  · rename_i e
    cases h
    subst e
    rw [g_TooMany z] at hm
    cases hm
    exact ⟨excCB_ok (z.e 23 rfl), of_decide_eq_true (z.e 72 rfl)⟩
  split at h
  · rename_i e
    cases h
    subst e
    rw [g_Unknown z] at hm
    cases hm
    exact ⟨excCB_ok (z.e 25 rfl), of_decide_eq_true (z.e 73 rfl)⟩
  split at h
  · rename_i e
    cases h
    subst e
    rw [g_Taken z] at hm
    cases hm
    exact ⟨excCB_ok (z.e 27 rfl), of_decide_eq_true (z.e 74 rfl)⟩
  split at h
  · rename_i e
    cases h
    subst e
    rw [g_Refused z] at hm
    cases hm
    exact ⟨excCB_ok (z.e 29 rfl), of_decide_eq_true (z.e 75 rfl)⟩
  split at h
  · rename_i e
    cases h
    subst e
    rw [g_NothingToUndo z] at hm
    cases hm
    exact ⟨excCB_ok (z.e 31 rfl), of_decide_eq_true (z.e 76 rfl)⟩
  cases h
def xi_HammerError_LookupError (x : Str) : Option Bool := if x = "HammerError" then some false else if x = "BadNumber" then some false else if x = "BadName" then some false else if x = "BadItem" then some false else if x = "BadEvent" then some false else if x = "BadNote" then some false else if x = "TooMany" then some false else if x = "Unknown" then some false else if x = "Taken" then some false else if x = "Refused" then some false else if x = "NothingToUndo" then some false else none
theorem xi_HammerError_LookupError_ok (z : Ax K mg base) : ∀ x b C, xi_HammerError_LookupError x = some b → mg x = some (.ref C) → ExcC K C ∧ PySem.W.kitOne K (.ref C) (.type "LookupError") = some b := fun x b C h hm => by
  unfold xi_HammerError_LookupError at h
  split at h
  · rename_i e
    cases h
    subst e
    rw [g_HammerError z] at hm
    cases hm
    exact ⟨excCB_ok (z.e 11 rfl), of_decide_eq_true (z.e 77 rfl)⟩
  split at h
  · rename_i e
    cases h
    subst e
    rw [g_BadNumber z] at hm
    cases hm
    exact ⟨excCB_ok (z.e 13 rfl), of_decide_eq_true (z.e 78 rfl)⟩
  split at h
  · rename_i e
    cases h
    subst e
    rw [g_BadName z] at hm
    cases hm
    exact ⟨excCB_ok (z.e 15 rfl), of_decide_eq_true (z.e 79 rfl)⟩
  split at h
  · rename_i e
    cases h
    subst e
    rw [g_BadItem z] at hm
    cases hm
    exact ⟨excCB_ok (z.e 17 rfl), of_decide_eq_true (z.e 80 rfl)⟩
  split at h
  · rename_i e
    cases h
    subst e
    rw [g_BadEvent z] at hm
    cases hm
    exact ⟨excCB_ok (z.e 19 rfl), of_decide_eq_true (z.e 81 rfl)⟩
  split at h
  · rename_i e
    cases h
    subst e
    rw [g_BadNote z] at hm
    cases hm
    exact ⟨excCB_ok (z.e 21 rfl), of_decide_eq_true (z.e 82 rfl)⟩
  split at h
  · rename_i e
    cases h
    subst e
    rw [g_TooMany z] at hm
    cases hm
    exact ⟨excCB_ok (z.e 23 rfl), of_decide_eq_true (z.e 83 rfl)⟩
  split at h
  · rename_i e
    cases h
    subst e
    rw [g_Unknown z] at hm
    cases hm
    exact ⟨excCB_ok (z.e 25 rfl), of_decide_eq_true (z.e 84 rfl)⟩
  split at h
  · rename_i e
    cases h
    subst e
    rw [g_Taken z] at hm
    cases hm
    exact ⟨excCB_ok (z.e 27 rfl), of_decide_eq_true (z.e 85 rfl)⟩
  split at h
  · rename_i e
    cases h
    subst e
    rw [g_Refused z] at hm
    cases hm
    exact ⟨excCB_ok (z.e 29 rfl), of_decide_eq_true (z.e 86 rfl)⟩
  split at h
  · rename_i e
    cases h
    subst e
    rw [g_NothingToUndo z] at hm
    cases hm
    exact ⟨excCB_ok (z.e 31 rfl), of_decide_eq_true (z.e 87 rfl)⟩
  cases h
def xi_HammerError_RuntimeError (x : Str) : Option Bool := if x = "HammerError" then some false else if x = "BadNumber" then some false else if x = "BadName" then some false else if x = "BadItem" then some false else if x = "BadEvent" then some false else if x = "BadNote" then some false else if x = "TooMany" then some false else if x = "Unknown" then some false else if x = "Taken" then some false else if x = "Refused" then some false else if x = "NothingToUndo" then some false else none
theorem xi_HammerError_RuntimeError_ok (z : Ax K mg base) : ∀ x b C, xi_HammerError_RuntimeError x = some b → mg x = some (.ref C) → ExcC K C ∧ PySem.W.kitOne K (.ref C) (.type "RuntimeError") = some b := fun x b C h hm => by
  unfold xi_HammerError_RuntimeError at h
  split at h
  · rename_i e
    cases h
    subst e
    rw [g_HammerError z] at hm
    cases hm
    exact ⟨excCB_ok (z.e 11 rfl), of_decide_eq_true (z.e 88 rfl)⟩
  split at h
  · rename_i e
    cases h
    subst e
    rw [g_BadNumber z] at hm
    cases hm
    exact ⟨excCB_ok (z.e 13 rfl), of_decide_eq_true (z.e 89 rfl)⟩
  split at h
  · rename_i e
    cases h
    subst e
    rw [g_BadName z] at hm
    cases hm
    exact ⟨excCB_ok (z.e 15 rfl), of_decide_eq_true (z.e 90 rfl)⟩
  split at h
  · rename_i e
    cases h
    subst e
    rw [g_BadItem z] at hm
    cases hm
    exact ⟨excCB_ok (z.e 17 rfl), of_decide_eq_true (z.e 91 rfl)⟩
  split at h
  · rename_i e
    cases h
    subst e
    rw [g_BadEvent z] at hm
    cases hm
    exact ⟨excCB_ok (z.e 19 rfl), of_decide_eq_true (z.e 92 rfl)⟩
  split at h
  · rename_i e
    cases h
    subst e
    rw [g_BadNote z] at hm
    cases hm
    exact ⟨excCB_ok (z.e 21 rfl), of_decide_eq_true (z.e 93 rfl)⟩
  split at h
  · rename_i e
    cases h
    subst e
    rw [g_TooMany z] at hm
    cases hm
    exact ⟨excCB_ok (z.e 23 rfl), of_decide_eq_true (z.e 94 rfl)⟩
  split at h
  · rename_i e
    cases h
    subst e
    rw [g_Unknown z] at hm
    cases hm
    exact ⟨excCB_ok (z.e 25 rfl), of_decide_eq_true (z.e 95 rfl)⟩
  split at h
  · rename_i e
    cases h
    subst e
    rw [g_Taken z] at hm
    cases hm
    exact ⟨excCB_ok (z.e 27 rfl), of_decide_eq_true (z.e 96 rfl)⟩
  split at h
  · rename_i e
    cases h
    subst e
    rw [g_Refused z] at hm
    cases hm
    exact ⟨excCB_ok (z.e 29 rfl), of_decide_eq_true (z.e 97 rfl)⟩
  split at h
  · rename_i e
    cases h
    subst e
    rw [g_NothingToUndo z] at hm
    cases hm
    exact ⟨excCB_ok (z.e 31 rfl), of_decide_eq_true (z.e 98 rfl)⟩
  cases h
def xi_HammerError_TooMany (x : Str) : Option Bool := if x = "HammerError" then some false else if x = "BadNumber" then some false else if x = "BadName" then some false else if x = "BadItem" then some false else if x = "BadEvent" then some false else if x = "BadNote" then some false else if x = "TooMany" then some true else if x = "Unknown" then some false else if x = "Taken" then some false else if x = "Refused" then some false else if x = "NothingToUndo" then some false else none
theorem xi_HammerError_TooMany_ok (z : Ax K mg base) : ∀ x b C, xi_HammerError_TooMany x = some b → mg x = some (.ref C) → ExcC K C ∧ PySem.W.kitOne K (.ref C) (.ref (He.ga K "TooMany")) = some b := fun x b C h hm => by
  unfold xi_HammerError_TooMany at h
  split at h
  · rename_i e
    cases h
    subst e
    rw [g_HammerError z] at hm
    cases hm
    exact ⟨excCB_ok (z.e 11 rfl), of_decide_eq_true (z.e 99 rfl)⟩
  split at h
  · rename_i e
    cases h
    subst e
    rw [g_BadNumber z] at hm
    cases hm
    exact ⟨excCB_ok (z.e 13 rfl), of_decide_eq_true (z.e 100 rfl)⟩
  split at h
  · rename_i e
    cases h
    subst e
    rw [g_BadName z] at hm
    cases hm
    exact ⟨excCB_ok (z.e 15 rfl), of_decide_eq_true (z.e 101 rfl)⟩
  split at h
  · rename_i e
    cases h
    subst e
    rw [g_BadItem z] at hm
    cases hm
    exact ⟨excCB_ok (z.e 17 rfl), of_decide_eq_true (z.e 102 rfl)⟩
  split at h
  · rename_i e
    cases h
    subst e
    rw [g_BadEvent z] at hm
    cases hm
    exact ⟨excCB_ok (z.e 19 rfl), of_decide_eq_true (z.e 103 rfl)⟩
  split at h
  · rename_i e
    cases h
    subst e
    rw [g_BadNote z] at hm
    cases hm
    exact ⟨excCB_ok (z.e 21 rfl), of_decide_eq_true (z.e 104 rfl)⟩
  split at h
  · rename_i e
    cases h
    subst e
    rw [g_TooMany z] at hm
    cases hm
    exact ⟨excCB_ok (z.e 23 rfl), of_decide_eq_true (z.e 105 rfl)⟩
  split at h
  · rename_i e
    cases h
    subst e
    rw [g_Unknown z] at hm
    cases hm
    exact ⟨excCB_ok (z.e 25 rfl), of_decide_eq_true (z.e 106 rfl)⟩
  split at h
  · rename_i e
    cases h
    subst e
    rw [g_Taken z] at hm
    cases hm
    exact ⟨excCB_ok (z.e 27 rfl), of_decide_eq_true (z.e 107 rfl)⟩
  split at h
  · rename_i e
    cases h
    subst e
    rw [g_Refused z] at hm
    cases hm
    exact ⟨excCB_ok (z.e 29 rfl), of_decide_eq_true (z.e 108 rfl)⟩
  split at h
  · rename_i e
    cases h
    subst e
    rw [g_NothingToUndo z] at hm
    cases hm
    exact ⟨excCB_ok (z.e 31 rfl), of_decide_eq_true (z.e 109 rfl)⟩
  cases h
def xi_HammerError_Unknown (x : Str) : Option Bool := if x = "HammerError" then some false else if x = "BadNumber" then some false else if x = "BadName" then some false else if x = "BadItem" then some false else if x = "BadEvent" then some false else if x = "BadNote" then some false else if x = "TooMany" then some false else if x = "Unknown" then some true else if x = "Taken" then some false else if x = "Refused" then some false else if x = "NothingToUndo" then some false else none
theorem xi_HammerError_Unknown_ok (z : Ax K mg base) : ∀ x b C, xi_HammerError_Unknown x = some b → mg x = some (.ref C) → ExcC K C ∧ PySem.W.kitOne K (.ref C) (.ref (He.ga K "Unknown")) = some b := fun x b C h hm => by
  unfold xi_HammerError_Unknown at h
  split at h
  · rename_i e
    cases h
    subst e
    rw [g_HammerError z] at hm
    cases hm
    exact ⟨excCB_ok (z.e 11 rfl), of_decide_eq_true (z.e 110 rfl)⟩
  split at h
  · rename_i e
    cases h
    subst e
    rw [g_BadNumber z] at hm
    cases hm
    exact ⟨excCB_ok (z.e 13 rfl), of_decide_eq_true (z.e 111 rfl)⟩
  split at h
  · rename_i e
    cases h
    subst e
    rw [g_BadName z] at hm
    cases hm
    exact ⟨excCB_ok (z.e 15 rfl), of_decide_eq_true (z.e 112 rfl)⟩
  split at h
  · rename_i e
    cases h
    subst e
    rw [g_BadItem z] at hm
    cases hm
    exact ⟨excCB_ok (z.e 17 rfl), of_decide_eq_true (z.e 113 rfl)⟩
  split at h
  · rename_i e
    cases h
    subst e
    rw [g_BadEvent z] at hm
    cases hm
    exact ⟨excCB_ok (z.e 19 rfl), of_decide_eq_true (z.e 114 rfl)⟩
  split at h
  · rename_i e
    cases h
    subst e
    rw [g_BadNote z] at hm
    cases hm
    exact ⟨excCB_ok (z.e 21 rfl), of_decide_eq_true (z.e 115 rfl)⟩
  split at h
  · rename_i e
    cases h
    subst e
    rw [g_TooMany z] at hm
    cases hm
    exact ⟨excCB_ok (z.e 23 rfl), of_decide_eq_true (z.e 116 rfl)⟩
  split at h
  · rename_i e
    cases h
    subst e
    rw [g_Unknown z] at hm
    cases hm
    exact ⟨excCB_ok (z.e 25 rfl), of_decide_eq_true (z.e 117 rfl)⟩
  split at h
  · rename_i e
    cases h
    subst e
    rw [g_Taken z] at hm
    cases hm
    exact ⟨excCB_ok (z.e 27 rfl), of_decide_eq_true (z.e 118 rfl)⟩
  split at h
  · rename_i e
    cases h
    subst e
    rw [g_Refused z] at hm
    cases hm
    exact ⟨excCB_ok (z.e 29 rfl), of_decide_eq_true (z.e 119 rfl)⟩
  split at h
  · rename_i e
    cases h
    subst e
    rw [g_NothingToUndo z] at hm
    cases hm
    exact ⟨excCB_ok (z.e 31 rfl), of_decide_eq_true (z.e 120 rfl)⟩
  cases h
def xi_HammerError_Taken (x : Str) : Option Bool := if x = "HammerError" then some false else if x = "BadNumber" then some false else if x = "BadName" then some false else if x = "BadItem" then some false else if x = "BadEvent" then some false else if x = "BadNote" then some false else if x = "TooMany" then some false else if x = "Unknown" then some false else if x = "Taken" then some true else if x = "Refused" then some false else if x = "NothingToUndo" then some false else none
theorem xi_HammerError_Taken_ok (z : Ax K mg base) : ∀ x b C, xi_HammerError_Taken x = some b → mg x = some (.ref C) → ExcC K C ∧ PySem.W.kitOne K (.ref C) (.ref (He.ga K "Taken")) = some b := fun x b C h hm => by
  unfold xi_HammerError_Taken at h
  split at h
  · rename_i e
    cases h
    subst e
    rw [g_HammerError z] at hm
    cases hm
    exact ⟨excCB_ok (z.e 11 rfl), of_decide_eq_true (z.e 121 rfl)⟩
  split at h
  · rename_i e
    cases h
    subst e
    rw [g_BadNumber z] at hm
    cases hm
    exact ⟨excCB_ok (z.e 13 rfl), of_decide_eq_true (z.e 122 rfl)⟩
  split at h
  · rename_i e
    cases h
    subst e
    rw [g_BadName z] at hm
    cases hm
    exact ⟨excCB_ok (z.e 15 rfl), of_decide_eq_true (z.e 123 rfl)⟩
  split at h
  · rename_i e
    cases h
    subst e
    rw [g_BadItem z] at hm
    cases hm
    exact ⟨excCB_ok (z.e 17 rfl), of_decide_eq_true (z.e 124 rfl)⟩
  split at h
  · rename_i e
    cases h
    subst e
    rw [g_BadEvent z] at hm
    cases hm
    exact ⟨excCB_ok (z.e 19 rfl), of_decide_eq_true (z.e 125 rfl)⟩
  split at h
  · rename_i e
    cases h
    subst e
    rw [g_BadNote z] at hm
    cases hm
    exact ⟨excCB_ok (z.e 21 rfl), of_decide_eq_true (z.e 126 rfl)⟩
  split at h
  · rename_i e
    cases h
    subst e
    rw [g_TooMany z] at hm
    cases hm
    exact ⟨excCB_ok (z.e 23 rfl), of_decide_eq_true (z.e 127 rfl)⟩
  split at h
  · rename_i e
    cases h
    subst e
    rw [g_Unknown z] at hm
    cases hm
    exact ⟨excCB_ok (z.e 25 rfl), of_decide_eq_true (z.e 128 rfl)⟩
  split at h
  · rename_i e
    cases h
    subst e
    rw [g_Taken z] at hm
    cases hm
    exact ⟨excCB_ok (z.e 27 rfl), of_decide_eq_true (z.e 129 rfl)⟩
  split at h
  · rename_i e
    cases h
    subst e
    rw [g_Refused z] at hm
    cases hm
    exact ⟨excCB_ok (z.e 29 rfl), of_decide_eq_true (z.e 130 rfl)⟩
  split at h
  · rename_i e
    cases h
    subst e
    rw [g_NothingToUndo z] at hm
    cases hm
    exact ⟨excCB_ok (z.e 31 rfl), of_decide_eq_true (z.e 131 rfl)⟩
  cases h
def xi_HammerError_Refused (x : Str) : Option Bool := if x = "HammerError" then some false else if x = "BadNumber" then some false else if x = "BadName" then some false else if x = "BadItem" then some false else if x = "BadEvent" then some false else if x = "BadNote" then some false else if x = "TooMany" then some false else if x = "Unknown" then some false else if x = "Taken" then some false else if x = "Refused" then some true else if x = "NothingToUndo" then some false else none
theorem xi_HammerError_Refused_ok (z : Ax K mg base) : ∀ x b C, xi_HammerError_Refused x = some b → mg x = some (.ref C) → ExcC K C ∧ PySem.W.kitOne K (.ref C) (.ref (He.ga K "Refused")) = some b := fun x b C h hm => by
  unfold xi_HammerError_Refused at h
  split at h
  · rename_i e
    cases h
    subst e
    rw [g_HammerError z] at hm
    cases hm
    exact ⟨excCB_ok (z.e 11 rfl), of_decide_eq_true (z.e 132 rfl)⟩
  split at h
  · rename_i e
    cases h
    subst e
    rw [g_BadNumber z] at hm
    cases hm
    exact ⟨excCB_ok (z.e 13 rfl), of_decide_eq_true (z.e 133 rfl)⟩
  split at h
  · rename_i e
    cases h
    subst e
    rw [g_BadName z] at hm
    cases hm
    exact ⟨excCB_ok (z.e 15 rfl), of_decide_eq_true (z.e 134 rfl)⟩
  split at h
  · rename_i e
    cases h
    subst e
    rw [g_BadItem z] at hm
    cases hm
    exact ⟨excCB_ok (z.e 17 rfl), of_decide_eq_true (z.e 135 rfl)⟩
  split at h
  · rename_i e
    cases h
    subst e
    rw [g_BadEvent z] at hm
    cases hm
    exact ⟨excCB_ok (z.e 19 rfl), of_decide_eq_true (z.e 136 rfl)⟩
  split at h
  · rename_i e
    cases h
    subst e
    rw [g_BadNote z] at hm
    cases hm
    exact ⟨excCB_ok (z.e 21 rfl), of_decide_eq_true (z.e 137 rfl)⟩
  split at h
  · rename_i e
    cases h
    subst e
    rw [g_TooMany z] at hm
    cases hm
    exact ⟨excCB_ok (z.e 23 rfl), of_decide_eq_true (z.e 138 rfl)⟩
  split at h
  · rename_i e
    cases h
    subst e
    rw [g_Unknown z] at hm
    cases hm
    exact ⟨excCB_ok (z.e 25 rfl), of_decide_eq_true (z.e 139 rfl)⟩
  split at h
  · rename_i e
    cases h
    subst e
    rw [g_Taken z] at hm
    cases hm
    exact ⟨excCB_ok (z.e 27 rfl), of_decide_eq_true (z.e 140 rfl)⟩
  split at h
  · rename_i e
    cases h
    subst e
    rw [g_Refused z] at hm
    cases hm
    exact ⟨excCB_ok (z.e 29 rfl), of_decide_eq_true (z.e 141 rfl)⟩
  split at h
  · rename_i e
    cases h
    subst e
    rw [g_NothingToUndo z] at hm
    cases hm
    exact ⟨excCB_ok (z.e 31 rfl), of_decide_eq_true (z.e 142 rfl)⟩
  cases h
def xi_HammerError_NothingToUndo (x : Str) : Option Bool := if x = "HammerError" then some false else if x = "BadNumber" then some false else if x = "BadName" then some false else if x = "BadItem" then some false else if x = "BadEvent" then some false else if x = "BadNote" then some false else if x = "TooMany" then some false else if x = "Unknown" then some false else if x = "Taken" then some false else if x = "Refused" then some false else if x = "NothingToUndo" then some true else none
theorem xi_HammerError_NothingToUndo_ok (z : Ax K mg base) : ∀ x b C, xi_HammerError_NothingToUndo x = some b → mg x = some (.ref C) → ExcC K C ∧ PySem.W.kitOne K (.ref C) (.ref (He.ga K "NothingToUndo")) = some b := fun x b C h hm => by
  unfold xi_HammerError_NothingToUndo at h
  split at h
  · rename_i e
    cases h
    subst e
    rw [g_HammerError z] at hm
    cases hm
    exact ⟨excCB_ok (z.e 11 rfl), of_decide_eq_true (z.e 143 rfl)⟩
  split at h
  · rename_i e
    cases h
    subst e
    rw [g_BadNumber z] at hm
    cases hm
    exact ⟨excCB_ok (z.e 13 rfl), of_decide_eq_true (z.e 144 rfl)⟩
  split at h
  · rename_i e
    cases h
    subst e
    rw [g_BadName z] at hm
    cases hm
    exact ⟨excCB_ok (z.e 15 rfl), of_decide_eq_true (z.e 145 rfl)⟩
  split at h
  · rename_i e
    cases h
    subst e
    rw [g_BadItem z] at hm
    cases hm
    exact ⟨excCB_ok (z.e 17 rfl), of_decide_eq_true (z.e 146 rfl)⟩
  split at h
  · rename_i e
    cases h
    subst e
    rw [g_BadEvent z] at hm
    cases hm
    exact ⟨excCB_ok (z.e 19 rfl), of_decide_eq_true (z.e 147 rfl)⟩
  split at h
  · rename_i e
    cases h
    subst e
    rw [g_BadNote z] at hm
    cases hm
    exact ⟨excCB_ok (z.e 21 rfl), of_decide_eq_true (z.e 148 rfl)⟩
  split at h
  · rename_i e
    cases h
    subst e
    rw [g_TooMany z] at hm
    cases hm
    exact ⟨excCB_ok (z.e 23 rfl), of_decide_eq_true (z.e 149 rfl)⟩
  split at h
  · rename_i e
    cases h
    subst e
    rw [g_Unknown z] at hm
    cases hm
    exact ⟨excCB_ok (z.e 25 rfl), of_decide_eq_true (z.e 150 rfl)⟩
  split at h
  · rename_i e
    cases h
    subst e
    rw [g_Taken z] at hm
    cases hm
    exact ⟨excCB_ok (z.e 27 rfl), of_decide_eq_true (z.e 151 rfl)⟩
  split at h
  · rename_i e
    cases h
    subst e
    rw [g_Refused z] at hm
    cases hm
    exact ⟨excCB_ok (z.e 29 rfl), of_decide_eq_true (z.e 152 rfl)⟩
  split at h
  · rename_i e
    cases h
    subst e
    rw [g_NothingToUndo z] at hm
    cases hm
    exact ⟨excCB_ok (z.e 31 rfl), of_decide_eq_true (z.e 153 rfl)⟩
  cases h
def xi_HammerError_ValueError (x : Str) : Option Bool := if x = "HammerError" then some true else if x = "BadNumber" then some true else if x = "BadName" then some true else if x = "BadItem" then some true else if x = "BadEvent" then some true else if x = "BadNote" then some true else if x = "TooMany" then some true else if x = "Unknown" then some true else if x = "Taken" then some true else if x = "Refused" then some true else if x = "NothingToUndo" then some true else none
theorem xi_HammerError_ValueError_ok (z : Ax K mg base) : ∀ x b C, xi_HammerError_ValueError x = some b → mg x = some (.ref C) → ExcC K C ∧ PySem.W.kitOne K (.ref C) (.type "ValueError") = some b := fun x b C h hm => by
  unfold xi_HammerError_ValueError at h
  split at h
  · rename_i e
    cases h
    subst e
    rw [g_HammerError z] at hm
    cases hm
    exact ⟨excCB_ok (z.e 11 rfl), of_decide_eq_true (z.e 154 rfl)⟩
  split at h
  · rename_i e
    cases h
    subst e
    rw [g_BadNumber z] at hm
    cases hm
    exact ⟨excCB_ok (z.e 13 rfl), of_decide_eq_true (z.e 155 rfl)⟩
  split at h
  · rename_i e
    cases h
    subst e
    rw [g_BadName z] at hm
    cases hm
    exact ⟨excCB_ok (z.e 15 rfl), of_decide_eq_true (z.e 156 rfl)⟩
  split at h
  · rename_i e
    cases h
    subst e
    rw [g_BadItem z] at hm
    cases hm
    exact ⟨excCB_ok (z.e 17 rfl), of_decide_eq_true (z.e 157 rfl)⟩
  split at h
  · rename_i e
    cases h
    subst e
    rw [g_BadEvent z] at hm
    cases hm
    exact ⟨excCB_ok (z.e 19 rfl), of_decide_eq_true (z.e 158 rfl)⟩
  split at h
  · rename_i e
    cases h
    subst e
    rw [g_BadNote z] at hm
    cases hm
    exact ⟨excCB_ok (z.e 21 rfl), of_decide_eq_true (z.e 159 rfl)⟩
  split at h
  · rename_i e
    cases h
    subst e
    rw [g_TooMany z] at hm
    cases hm
    exact ⟨excCB_ok (z.e 23 rfl), of_decide_eq_true (z.e 160 rfl)⟩
  split at h
  · rename_i e
    cases h
    subst e
    rw [g_Unknown z] at hm
    cases hm
    exact ⟨excCB_ok (z.e 25 rfl), of_decide_eq_true (z.e 161 rfl)⟩
  split at h
  · rename_i e
    cases h
    subst e
    rw [g_Taken z] at hm
    cases hm
    exact ⟨excCB_ok (z.e 27 rfl), of_decide_eq_true (z.e 162 rfl)⟩
  split at h
  · rename_i e
    cases h
    subst e
    rw [g_Refused z] at hm
    cases hm
    exact ⟨excCB_ok (z.e 29 rfl), of_decide_eq_true (z.e 163 rfl)⟩
  split at h
  · rename_i e
    cases h
    subst e
    rw [g_NothingToUndo z] at hm
    cases hm
    exact ⟨excCB_ok (z.e 31 rfl), of_decide_eq_true (z.e 164 rfl)⟩
  cases h
theorem nm_HammerError {X : Cx} (z : Ax X.K X.mg base) (hg : Gl X "HammerError" := by rfl) : Names X "HammerError" (.ref (He.ga X.K "HammerError")) := ⟨hg, by decide, .inl (g_HammerError z)⟩
def xt_HammerError (x : Str) : Option Bool := if x = "HammerError" then some true else if x = "BadNumber" then some true else if x = "BadName" then some true else if x = "BadItem" then some true else if x = "BadEvent" then some true else if x = "BadNote" then some true else if x = "TooMany" then some true else if x = "Unknown" then some true else if x = "Taken" then some true else if x = "Refused" then some true else if x = "NothingToUndo" then some true else none
theorem xt_HammerError_ok (z : Ax K mg base) : ∀ x b C, xt_HammerError x = some b → mg x = some (.ref C) → PySem.W.exmOne K (.ref C) (.ref (He.ga K "HammerError")) = some b := fun x b C h hm => by
  unfold xt_HammerError at h
  split at h
  · rename_i e
    cases h
    subst e
    rw [g_HammerError z] at hm
    cases hm
    exact He.exm_ok (z.c.d.fact 38 rfl)
  split at h
  · rename_i e
    cases h
    subst e
    rw [g_BadNumber z] at hm
    cases hm
    exact He.exm_ok (z.c.d.fact 39 rfl)
  split at h
  · rename_i e
    cases h
    subst e
    rw [g_BadName z] at hm
    cases hm
    exact He.exm_ok (z.c.d.fact 40 rfl)
  split at h
  · rename_i e
    cases h
    subst e
    rw [g_BadItem z] at hm
    cases hm
    exact He.exm_ok (z.c.d.fact 41 rfl)
  split at h
  · rename_i e
    cases h
    subst e
    rw [g_BadEvent z] at hm
    cases hm
    exact He.exm_ok (z.c.d.fact 42 rfl)
  split at h
  · rename_i e
    cases h
    subst e
    rw [g_BadNote z] at hm
    cases hm
    exact He.exm_ok (z.c.d.fact 43 rfl)
  split at h
  · rename_i e
    cases h
    subst e
    rw [g_TooMany z] at hm
    cases hm
    exact He.exm_ok (z.c.d.fact 44 rfl)
  split at h
  · rename_i e
    cases h
    subst e
    rw [g_Unknown z] at hm
    cases hm
    exact He.exm_ok (z.c.d.fact 45 rfl)
  split at h
  · rename_i e
    cases h
    subst e
    rw [g_Taken z] at hm
    cases hm
    exact He.exm_ok (z.c.d.fact 46 rfl)
  split at h
  · rename_i e
    cases h
    subst e
    rw [g_Refused z] at hm
    cases hm
    exact He.exm_ok (z.c.d.fact 47 rfl)
  split at h
  · rename_i e
    cases h
    subst e
    rw [g_NothingToUndo z] at hm
    cases hm
    exact He.exm_ok (z.c.d.fact 48 rfl)
  cases h
theorem xf_BadNumber_BadName_BadEvent_Unknown_Taken_value (z : Ax K mg base) : ∀ cn C, mg cn = some (.ref C) → cn ∈ (["BadNumber", "BadName", "BadEvent", "Unknown", "Taken"] : List Str) → XfC K C ∧ PySem.W.findIn K (.ref C) "value" = some none := fun cn C hm h => by
  simp only [List.mem_cons, List.not_mem_nil, or_false] at h
  rcases h with h | h | h | h | h
  · subst h; rw [g_BadNumber z] at hm; cases hm; exact ⟨xfB_ok (z.e 1 rfl), He.noat_ok (z.c.d.fact 28 rfl)⟩
  · subst h; rw [g_BadName z] at hm; cases hm; exact ⟨xfB_ok (z.e 2 rfl), He.noat_ok (z.c.d.fact 29 rfl)⟩
  · subst h; rw [g_BadEvent z] at hm; cases hm; exact ⟨xfB_ok (z.e 4 rfl), He.noat_ok (z.c.d.fact 31 rfl)⟩
  · subst h; rw [g_Unknown z] at hm; cases hm; exact ⟨xfB_ok (z.e 7 rfl), He.noat_ok (z.c.d.fact 34 rfl)⟩
  · subst h; rw [g_Taken z] at hm; cases hm; exact ⟨xfB_ok (z.e 8 rfl), He.noat_ok (z.c.d.fact 35 rfl)⟩
theorem xf_BadItem_index (z : Ax K mg base) : ∀ cn C, mg cn = some (.ref C) → cn ∈ (["BadItem"] : List Str) → XfC K C ∧ PySem.W.findIn K (.ref C) "index" = some none := fun cn C hm h => by
  simp only [List.mem_cons, List.not_mem_nil, or_false] at h
  rcases h with h
  · subst h; rw [g_BadItem z] at hm; cases hm; exact ⟨xfB_ok (z.e 3 rfl), He.noat_ok (z.c.d.fact 30 rfl)⟩
theorem xf_BadNote_line (z : Ax K mg base) : ∀ cn C, mg cn = some (.ref C) → cn ∈ (["BadNote"] : List Str) → XfC K C ∧ PySem.W.findIn K (.ref C) "line" = some none := fun cn C hm h => by
  simp only [List.mem_cons, List.not_mem_nil, or_false] at h
  rcases h with h
  · subst h; rw [g_BadNote z] at hm; cases hm; exact ⟨xfB_ok (z.e 5 rfl), He.noat_ok (z.c.d.fact 32 rfl)⟩
theorem xf_TooMany_limit (z : Ax K mg base) : ∀ cn C, mg cn = some (.ref C) → cn ∈ (["TooMany"] : List Str) → XfC K C ∧ PySem.W.findIn K (.ref C) "limit" = some none := fun cn C hm h => by
  simp only [List.mem_cons, List.not_mem_nil, or_false] at h
  rcases h with h
  · subst h; rw [g_TooMany z] at hm; cases hm; exact ⟨xfB_ok (z.e 6 rfl), He.noat_ok (z.c.d.fact 33 rfl)⟩
theorem xf_Refused_reason (z : Ax K mg base) : ∀ cn C, mg cn = some (.ref C) → cn ∈ (["Refused"] : List Str) → XfC K C ∧ PySem.W.findIn K (.ref C) "reason" = some none := fun cn C hm h => by
  simp only [List.mem_cons, List.not_mem_nil, or_false] at h
  rcases h with h
  · subst h; rw [g_Refused z] at hm; cases hm; exact ⟨xfB_ok (z.e 9 rfl), He.noat_ok (z.c.d.fact 36 rfl)⟩
theorem xf_Refused_names (z : Ax K mg base) : ∀ cn C, mg cn = some (.ref C) → cn ∈ (["Refused"] : List Str) → XfC K C ∧ PySem.W.findIn K (.ref C) "names" = some none := fun cn C hm h => by
  simp only [List.mem_cons, List.not_mem_nil, or_false] at h
  rcases h with h
  · subst h; rw [g_Refused z] at hm; cases hm; exact ⟨xfB_ok (z.e 9 rfl), He.noat_ok (z.c.d.fact 37 rfl)⟩
end
/-! ### _law_taken -/
noncomputable def b__law_taken : SF := (sSeq (sIf (asB (fOp opGt (fOp opIx (fVar 0) (fC (.int 3))) (fC (.int 0)))) (sSeq (sSet 3 (fOp opMod (fun e M => rbind ((fCons (fOp opIx (fVar 0) (fC (.int 3))) fNil) e M) bInt) (fVar 1)))
  (sSeq (sSetL (fVar 0) (fC (.int 3)) (fOp opFdiv (fOp opIx (fVar 0) (fC (.int 3))) (fVar 1)))
  (sRet (fVar 3)))) sNil)
  (sSeq (sSetL (fVar 0) (fC (.int 1)) (fOp opAdd (fOp opIx (fVar 0) (fC (.int 1))) (fC (.int 1))))
  (sSeq (sIf (asB (fOp opGt (fOp opIx (fVar 0) (fC (.int 1))) (fun e M => rbind ((fCons (fOp opIx (fVar 0) (fC (.int 0))) fNil) e M) bLen))) (sSeq (sSetL (fVar 0) (fC (.int 2)) (fOp opMod (fun e M => rbind ((fCons (fOp opAdd (fOp opMul (fOp opIx (fVar 0) (fC (.int 2))) (fC (.int 48271))) (fC (.int 11))) fNil) e M) bInt) (fC (.int 2147483647))))
  (sRet (fOp opMod (fun e M => rbind ((fCons (fOp opFdiv (fOp opIx (fVar 0) (fC (.int 2))) (fC (.int 7))) fNil) e M) bInt) (fVar 1)))) sNil)
  (sSeq (sSet 2 (fOp opIx (fOp opIx (fVar 0) (fC (.int 0))) (fOp opSub (fOp opIx (fVar 0) (fC (.int 1))) (fC (.int 1)))))
  (sSeq (sSetL (fVar 0) (fC (.int 2)) (fOp opMod (fun e M => rbind ((fCons (fOp opAdd (fOp opAdd (fOp opMul (fOp opIx (fVar 0) (fC (.int 2))) (fC (.int 48271))) (fVar 2)) (fC (.int 11))) fNil) e M) bInt) (fC (.int 2147483647))))
  (sSeq (sIf (asB (fOp opGe (fVar 2) (fOp opPow (fC (.int 10)) (fC (.int 18))))) (sSetL (fVar 0) (fC (.int 3)) (fOp opFdiv (fVar 2) (fVar 1))) sNil)
  (sRet (fOp opMod (fun e M => rbind ((fCons (fVar 2) fNil) e M) bInt) (fVar 1)))))))))
theorem sc__law_taken : FnScope ["row", "many", "cell", "found"] ["row", "many"] (defScope (top 13)) := ⟨rfl, rfl, rfl, by decide +kernel, rfl, by decide +kernel, by decide +kernel⟩
noncomputable def p__law_taken : List Val → Mem → R Val := phi 4 2 b__law_taken
theorem d__law_taken {w : World} {K : PySem.W.Frag} {mg : Str → Option Value} {base : Heap} (z : Ax K mg base) : BodyOk PySem.Challenge.pw_hammerkept_k09_errors w K mg base ["row", "many", "cell", "found"] "_law_taken" (defScope (top 13)) (defBody (top 13)) 1 b__law_taken := fun f cdv A outer s H E hr tk hp => (fun nd => (vss_cons (vs_if (vt_vc (vc_gt (ve_sub1 (ve_var 0) ve_int) ve_int)) (vss_cons (vs_set 3 (ve_mod (ve_int1 (by rfl) (g_int z) (va_cons (ve_sub1 (ve_var 0) ve_int) va_nil)) (ve_var 1)) nd) (vss_cons (vs_setL (ve_fdiv (ve_sub1 (ve_var 0) ve_int) (ve_var 1)) (ve_var 0) ve_int) (vss_one (vs_ret (ve_var 3))))) vss_nil) (vss_cons (vs_setL (ve_add (ve_sub1 (ve_var 0) ve_int) ve_int) (ve_var 0) ve_int) (vss_cons (vs_if (vt_vc (vc_gt (ve_sub1 (ve_var 0) ve_int) (ve_len (by rfl) (g_len z) (va_cons (ve_sub1 (ve_var 0) ve_int) va_nil)))) (vss_cons (vs_setL (ve_mod (ve_int1 (by rfl) (g_int z) (va_cons (ve_add (ve_mul (ve_sub1 (ve_var 0) ve_int) ve_int) ve_int) va_nil)) ve_int) (ve_var 0) ve_int) (vss_one (vs_ret (ve_mod (ve_int1 (by rfl) (g_int z) (va_cons (ve_fdiv (ve_sub1 (ve_var 0) ve_int) ve_int) va_nil)) (ve_var 1))))) vss_nil) (vss_cons (vs_set 2 (ve_sub1 (ve_sub1 (ve_var 0) ve_int) (ve_sub (ve_sub1 (ve_var 0) ve_int) ve_int)) nd) (vss_cons (vs_setL (ve_mod (ve_int1 (by rfl) (g_int z) (va_cons (ve_add (ve_add (ve_mul (ve_sub1 (ve_var 0) ve_int) ve_int) (ve_var 2)) ve_int) va_nil)) ve_int) (ve_var 0) ve_int) (vss_cons (vs_if (vt_vc (vc_ge (ve_var 2) (ve_pow ve_int ve_int))) (vss_one (vs_setL (ve_fdiv (ve_var 2) (ve_var 1)) (ve_var 0) ve_int)) vss_nil) (vss_one (vs_ret (ve_mod (ve_int1 (by rfl) (g_int z) (va_cons (ve_var 2) va_nil)) (ve_var 1))))))))))) sc__law_taken.nd
theorem fc__law_taken {w : World} {K : PySem.W.Frag} {mg : Str → Option Value} {base : Heap} (z : Ax K mg base) : FCal PySem.Challenge.pw_hammerkept_k09_errors w K mg base 2 "_law_taken" p__law_taken := fcalD (z.c.d.def_ 0 rfl) (g__law_taken z) sc__law_taken (fun _ _ _ _ _ _ us hl => match us, hl with | [_, _], _ => rfl) (d__law_taken z)
/-! ### _law_pick -/
noncomputable def b__law_pick : SF := (sRet (fOp opIx (fVar 1) (fCall p__law_taken (fCons (fVar 0) (fCons (fun e M => rbind ((fCons (fVar 1) fNil) e M) bLen) fNil)))))
theorem sc__law_pick : FnScope ["row", "kinds"] ["row", "kinds"] (defScope (top 14)) := ⟨rfl, rfl, rfl, by decide +kernel, rfl, by decide +kernel, by decide +kernel⟩
noncomputable def p__law_pick : List Val → Mem → R Val := phi 2 2 b__law_pick
theorem d__law_pick {w : World} {K : PySem.W.Frag} {mg : Str → Option Value} {base : Heap} (z : Ax K mg base) : BodyOk PySem.Challenge.pw_hammerkept_k09_errors w K mg base ["row", "kinds"] "_law_pick" (defScope (top 14)) (defBody (top 14)) 2 b__law_pick := fun f cdv A outer s H E hr tk hp => (fun nd => (vss_one (vs_ret (ve_sub1 (ve_var 1) (ve_call (fc__law_taken z) hr (by decide) tk (va_cons (ve_var 0) (va_cons (ve_len (by rfl) (g_len z) (va_cons (ve_var 1) va_nil)) va_nil)) (by rfl)))))) sc__law_pick.nd
theorem fc__law_pick {w : World} {K : PySem.W.Frag} {mg : Str → Option Value} {base : Heap} (z : Ax K mg base) : FCal PySem.Challenge.pw_hammerkept_k09_errors w K mg base 3 "_law_pick" p__law_pick := fcalD (z.c.d.def_ 1 rfl) (g__law_pick z) sc__law_pick (fun _ _ _ _ _ _ us hl => match us, hl with | [_, _], _ => rfl) (d__law_pick z)
/-! ### _law_alike -/
noncomputable def b__law_alike (φ : List Val → Mem → R Val) : SF := (sSeq (sIf (asT (fIsi (fun n => isB "tuple" n || isB "list" n) (fun _ => none) (fVar 1))) (sSeq (sIf (bOr (bNot (asT (fIsi (fun n => isB "tuple" n || isB "list" n) (fun _ => none) (fVar 0)))) (asB (fOp opNe (fIsi (isB "list") ct_list (fVar 0)) (fIsi (isB "list") ct_list (fVar 1))))) (sRet (fC (.bl false))) sNil)
  (sSeq (sIf (asB (fOp opNe (fun e M => rbind ((fCons (fVar 0) fNil) e M) bLen) (fun e M => rbind ((fCons (fVar 1) fNil) e M) bLen))) (sRet (fC (.bl false))) sNil)
  (sRet (fOp opEq (fLc (iRng1' (fCons (fun e M => rbind ((fCons (fVar 1) fNil) e M) bLen) fNil)) (tName 2) (bNot (asT (fCall φ (fCons (fOp opIx (fVar 0) (fVar 2)) (fCons (fOp opIx (fVar 1) (fVar 2)) fNil))))) (fVar 2) [2]) (fLst fNil))))) sNil)
  (sSeq (sIf (bOr (asB (fIsN false (fVar 1))) (asT (fIsi (isB "str") ct_str (fVar 1)))) (sRet (fAnd (fOp opEq (fVar 0) (fVar 1)) (fOp opEq (fIsi (isB "str") ct_str (fVar 0)) (fIsi (isB "str") ct_str (fVar 1))))) sNil)
  (sRet (fAnd (fIsi (isB "int") ct_int (fVar 0)) (fAnd (fOp opEq (fIsi (isB "bool") ct_bool (fVar 0)) (fIsi (isB "bool") ct_bool (fVar 1))) (fOp opEq (fVar 0) (fVar 1)))))))
theorem sc__law_alike : FnScope ["found", "due", "k"] ["found", "due"] (defScope (top 15)) := ⟨rfl, rfl, rfl, by decide +kernel, rfl, by decide +kernel, by decide +kernel⟩
noncomputable def p__law_alike : Nat → List Val → Mem → R Val
  | 0 => fun _ _ => .bad
  | n + 1 => phi 3 2 (b__law_alike (p__law_alike n))
theorem fc__law_alike {w : World} {K : PySem.W.Frag} {mg : Str → Option Value} {base : Heap} (z : Ax K mg base) : ∀ n, FCal PySem.Challenge.pw_hammerkept_k09_errors w K mg base (n + 1) "_law_alike" (p__law_alike n)
  | 0 => fcal_bad (z.c.d.def_ 2 rfl) (g__law_alike z) sc__law_alike (fun _ _ _ _ _ _ us hl => match us, hl with | [_, _], _ => rfl)
  | n + 1 => (fun φ (ih : FCal PySem.Challenge.pw_hammerkept_k09_errors w K mg base (n + 1) "_law_alike" φ) => show FCal PySem.Challenge.pw_hammerkept_k09_errors w K mg base (n + 1 + 1) "_law_alike" (phi 3 2 (b__law_alike φ)) from fcalD (z.c.d.def_ 2 rfl) (g__law_alike z) sc__law_alike (fun _ _ _ _ _ _ us hl => match us, hl with | [_, _], _ => rfl) (fun f cdv A outer s H E hr tk hp => (fun nd => (vss_cons (vs_if (vt_val (ve_isi2 (T := "tuple") (T' := "list") (hgT := by rfl) (hmT := (g_tuple z)) (hv := by decide +kernel) (hgT2 := by rfl) (hmT2 := (g_list z)) (hv2 := by decide +kernel) (hg := by rfl) (hm := g_isinstance z) (he := (ve_var 1)))) (vss_cons (vs_if (vt_w (vw_or (vt_not (vt_val (ve_isi2 (T := "tuple") (T' := "list") (hgT := by rfl) (hmT := (g_tuple z)) (hv := by decide +kernel) (hgT2 := by rfl) (hmT2 := (g_list z)) (hv2 := by decide +kernel) (hg := by rfl) (hm := g_isinstance z) (he := (ve_var 0))))) (vw_or1 (vt_vc (vc_ne (Rm.of hr) (ve_isiB (T := "list") (ct := ct_list) (hcs := ac_list z) (hgT := by rfl) (hmT := (g_list z)) (hv := by decide +kernel) (hg := by rfl) (hm := g_isinstance z) (he := (ve_var 0))) (ve_isiB (T := "list") (ct := ct_list) (hcs := ac_list z) (hgT := by rfl) (hmT := (g_list z)) (hv := by decide +kernel) (hg := by rfl) (hm := g_isinstance z) (he := (ve_var 1)))))))) (vss_one (vs_ret ve_bl)) vss_nil) (vss_cons (vs_if (vt_vc (vc_ne (Rm.of hr) (ve_len (by rfl) (g_len z) (va_cons (ve_var 0) va_nil)) (ve_len (by rfl) (g_len z) (va_cons (ve_var 1) va_nil)))) (vss_one (vs_ret ve_bl)) vss_nil) (vss_one (vs_ret (ve_vc (vc_eq (Rm.of hr) (ve_lc (own := [("k", 2)]) (vi_range1 (by rfl) (g_range z) (va_cons (ve_len (by rfl) (g_len z) (va_cons (ve_var 1) va_nil)) va_nil)) hr.hd (by rfl) nd (blk_of (by kernel_rfl)) (by decide) (fun _ _ _ _ _ => (vg_name 2 nd)) (fun _ _ _ _ _ => (fun tk => (vts_one (vt_not (vt_val (ve_call ih hr (Nat.le_refl _) tk (va_cons (ve_sub1 (ve_var 0) (ve_var 2)) (va_cons (ve_sub1 (ve_var 1) (ve_var 2)) va_nil)) (by rfl)))))) takes_W0) (fun _ _ _ _ _ => (ve_var 2))) (ve_lst va_nil))))))) vss_nil) (vss_cons (vs_if (vt_w (vw_or (vt_vc (vc_isN (ve_var 1))) (vw_or1 (vt_val (ve_isiB (T := "str") (ct := ct_str) (hcs := ac_str z) (hgT := by rfl) (hmT := (g_str z)) (hv := by decide +kernel) (hg := by rfl) (hm := g_isinstance z) (he := (ve_var 1))))))) (vss_one (vs_ret (ve_and (ve_vc (vc_eq (Rm.of hr) (ve_var 0) (ve_var 1))) (ve_one (ve_vc (vc_eq (Rm.of hr) (ve_isiB (T := "str") (ct := ct_str) (hcs := ac_str z) (hgT := by rfl) (hmT := (g_str z)) (hv := by decide +kernel) (hg := by rfl) (hm := g_isinstance z) (he := (ve_var 0))) (ve_isiB (T := "str") (ct := ct_str) (hcs := ac_str z) (hgT := by rfl) (hmT := (g_str z)) (hv := by decide +kernel) (hg := by rfl) (hm := g_isinstance z) (he := (ve_var 1))))))))) vss_nil) (vss_one (vs_ret (ve_and (ve_isiB (T := "int") (ct := ct_int) (hcs := ac_int z) (hgT := by rfl) (hmT := (g_int z)) (hv := by decide +kernel) (hg := by rfl) (hm := g_isinstance z) (he := (ve_var 0))) (ve_and (ve_vc (vc_eq (Rm.of hr) (ve_isiB (T := "bool") (ct := ct_bool) (hcs := ac_bool z) (hgT := by rfl) (hmT := (g_bool z)) (hv := by decide +kernel) (hg := by rfl) (hm := g_isinstance z) (he := (ve_var 0))) (ve_isiB (T := "bool") (ct := ct_bool) (hcs := ac_bool z) (hgT := by rfl) (hmT := (g_bool z)) (hv := by decide +kernel) (hg := by rfl) (hm := g_isinstance z) (he := (ve_var 1))))) (ve_one (ve_vc (vc_eq (Rm.of hr) (ve_var 0) (ve_var 1))))))))))) sc__law_alike.nd)) _ (fc__law_alike z n)
/-! ### _law_raised -/
noncomputable def b__law_raised : SF := (sTry (sSeq (sIf (asB (fOp opEq (fVar 0) (fC (.int 0)))) (sRaise1 "BadNumber" "value" (fVar 1)) sNil)
  (sSeq (sIf (asB (fOp opEq (fVar 0) (fC (.int 1)))) (sRaise1 "BadName" "value" (fVar 1)) sNil)
  (sSeq (sIf (asB (fOp opEq (fVar 0) (fC (.int 2)))) (sRaise1 "BadItem" "index" (fVar 1)) sNil)
  (sSeq (sIf (asB (fOp opEq (fVar 0) (fC (.int 3)))) (sRaise1 "BadEvent" "value" (fVar 1)) sNil)
  (sSeq (sIf (asB (fOp opEq (fVar 0) (fC (.int 4)))) (sRaise1 "BadNote" "line" (fVar 1)) sNil)
  (sSeq (sIf (asB (fOp opEq (fVar 0) (fC (.int 5)))) (sRaise1 "TooMany" "limit" (fVar 1)) sNil)
  (sSeq (sIf (asB (fOp opEq (fVar 0) (fC (.int 6)))) (sRaise1 "Unknown" "value" (fVar 1)) sNil)
  (sSeq (sIf (asB (fOp opEq (fVar 0) (fC (.int 7)))) (sRaise1 "Taken" "value" (fVar 1)) sNil)
  (sSeq (sIf (asB (fOp opEq (fVar 0) (fC (.int 8)))) (sRaise2 "Refused" "reason" "names" (fCons (fVar 1) (fCons (fVar 2) fNil))) sNil)
  (sRaise0 "NothingToUndo")))))))))) (⟨xt_HammerError, some 3, (sSeq (sSet 4 (fLst (fCons (fIsX xi_HammerError_BadNumber (fVar 3)) (fCons (fIsX xi_HammerError_BadName (fVar 3)) (fCons (fIsX xi_HammerError_BadItem (fVar 3)) (fCons (fIsX xi_HammerError_BadEvent (fVar 3)) (fCons (fIsX xi_HammerError_BadNote (fVar 3)) fNil)))))))
  (sSeq (sSet 4 (fOp opAdd (fVar 4) (fLst (fCons (fIsX xi_HammerError_TooMany (fVar 3)) (fCons (fIsX xi_HammerError_Unknown (fVar 3)) (fCons (fIsX xi_HammerError_Taken (fVar 3)) (fCons (fIsX xi_HammerError_Refused (fVar 3)) (fCons (fIsX xi_HammerError_NothingToUndo (fVar 3)) fNil))))))))
  (sSeq (sIf (bOr (bNot (asT (fIsX xi_HammerError_ValueError (fVar 3)))) (bOr (asT (fIsX xi_HammerError_LookupError (fVar 3))) (asT (fIsX xi_HammerError_RuntimeError (fVar 3))))) (sRet (fC .non)) sNil)
  (sSeq (sSet 5 (fC .non))
  (sSeq (sIf (asB (fOp (opIn false) (fVar 0) (fLst (fCons (fC (.int 0)) (fCons (fC (.int 1)) (fCons (fC (.int 3)) (fCons (fC (.int 6)) (fCons (fC (.int 7)) fNil)))))))) (sSet 5 (fXf ["BadNumber", "BadName", "BadEvent", "Unknown", "Taken"] "value" (fVar 3))) sNil)
  (sSeq (sIf (asB (fOp opEq (fVar 0) (fC (.int 2)))) (sSet 5 (fXf ["BadItem"] "index" (fVar 3))) sNil)
  (sSeq (sIf (asB (fOp opEq (fVar 0) (fC (.int 4)))) (sSet 5 (fXf ["BadNote"] "line" (fVar 3))) sNil)
  (sSeq (sIf (asB (fOp opEq (fVar 0) (fC (.int 5)))) (sSet 5 (fXf ["TooMany"] "limit" (fVar 3))) sNil)
  (sSeq (sIf (asB (fOp opEq (fVar 0) (fC (.int 8)))) (sSet 5 (fTup (fCons (fXf ["Refused"] "reason" (fVar 3)) (fCons (fXf ["Refused"] "names" (fVar 3)) fNil)))) sNil)
  (sRet (fTup (fCons (fVar 4) (fCons (fVar 5) fNil)))))))))))))⟩ :: []))
theorem sc__law_raised : FnScope ["number", "value", "named", "e", "kinds", "field"] ["number", "value", "named"] (defScope (top 16)) := ⟨rfl, rfl, rfl, by decide +kernel, rfl, by decide +kernel, by decide +kernel⟩
noncomputable def p__law_raised : List Val → Mem → R Val := phi 6 3 b__law_raised
theorem d__law_raised {w : World} {K : PySem.W.Frag} {mg : Str → Option Value} {base : Heap} (z : Ax K mg base) : BodyOk PySem.Challenge.pw_hammerkept_k09_errors w K mg base ["number", "value", "named", "e", "kinds", "field"] "_law_raised" (defScope (top 16)) (defBody (top 16)) 1 b__law_raised := fun f cdv A outer s H E hr tk hp => (fun nd => (vss_one (vs_try hr.hd tk (fun _ _ _ tk hp => (vss_cons (vs_if (vt_vc (vc_eq (Rm.of hr) (ve_var 0) ve_int)) (vss_one (vs_raise1 (ec_BadNumber z) hr (by rfl) tk (by rfl) (ve_var 1))) vss_nil) (vss_cons (vs_if (vt_vc (vc_eq (Rm.of hr) (ve_var 0) ve_int)) (vss_one (vs_raise1 (ec_BadName z) hr (by rfl) tk (by rfl) (ve_var 1))) vss_nil) (vss_cons (vs_if (vt_vc (vc_eq (Rm.of hr) (ve_var 0) ve_int)) (vss_one (vs_raise1 (ec_BadItem z) hr (by rfl) tk (by rfl) (ve_var 1))) vss_nil) (vss_cons (vs_if (vt_vc (vc_eq (Rm.of hr) (ve_var 0) ve_int)) (vss_one (vs_raise1 (ec_BadEvent z) hr (by rfl) tk (by rfl) (ve_var 1))) vss_nil) (vss_cons (vs_if (vt_vc (vc_eq (Rm.of hr) (ve_var 0) ve_int)) (vss_one (vs_raise1 (ec_BadNote z) hr (by rfl) tk (by rfl) (ve_var 1))) vss_nil) (vss_cons (vs_if (vt_vc (vc_eq (Rm.of hr) (ve_var 0) ve_int)) (vss_one (vs_raise1 (ec_TooMany z) hr (by rfl) tk (by rfl) (ve_var 1))) vss_nil) (vss_cons (vs_if (vt_vc (vc_eq (Rm.of hr) (ve_var 0) ve_int)) (vss_one (vs_raise1 (ec_Unknown z) hr (by rfl) tk (by rfl) (ve_var 1))) vss_nil) (vss_cons (vs_if (vt_vc (vc_eq (Rm.of hr) (ve_var 0) ve_int)) (vss_one (vs_raise1 (ec_Taken z) hr (by rfl) tk (by rfl) (ve_var 1))) vss_nil) (vss_cons (vs_if (vt_vc (vc_eq (Rm.of hr) (ve_var 0) ve_int)) (vss_one (vs_raise2 (ec_Refused z) hr (by rfl) tk (by rfl) (va_cons (ve_var 1) (va_cons (ve_var 2) va_nil)))) vss_nil) (vss_one (vs_raise0 (ec_NothingToUndo z) (by rfl) tk (by rfl))))))))))))) (.named (i := 3) (t := xt_HammerError) (nm_HammerError z) nd (by rfl) (by rfl) (xt_HammerError_ok z) (fun _ _ _ _ _ hz hf => (vss_cons (vs_set 4 (ve_lst (va_cons (ve_isX (c := .ref (He.ga K "BadNumber")) (cv := .ref (He.ga K "BadNumber")) (ct := xi_HammerError_BadNumber) hz hf (pe_glob (v := .ref (He.ga K "BadNumber")) (by rfl) (g_BadNumber z) rfl (by decide)) (.own _) (xi_HammerError_BadNumber_ok z) (by rfl) (g_isinstance z) (ve_var 3)) (va_cons (ve_isX (c := .ref (He.ga K "BadName")) (cv := .ref (He.ga K "BadName")) (ct := xi_HammerError_BadName) hz hf (pe_glob (v := .ref (He.ga K "BadName")) (by rfl) (g_BadName z) rfl (by decide)) (.own _) (xi_HammerError_BadName_ok z) (by rfl) (g_isinstance z) (ve_var 3)) (va_cons (ve_isX (c := .ref (He.ga K "BadItem")) (cv := .ref (He.ga K "BadItem")) (ct := xi_HammerError_BadItem) hz hf (pe_glob (v := .ref (He.ga K "BadItem")) (by rfl) (g_BadItem z) rfl (by decide)) (.own _) (xi_HammerError_BadItem_ok z) (by rfl) (g_isinstance z) (ve_var 3)) (va_cons (ve_isX (c := .ref (He.ga K "BadEvent")) (cv := .ref (He.ga K "BadEvent")) (ct := xi_HammerError_BadEvent) hz hf (pe_glob (v := .ref (He.ga K "BadEvent")) (by rfl) (g_BadEvent z) rfl (by decide)) (.own _) (xi_HammerError_BadEvent_ok z) (by rfl) (g_isinstance z) (ve_var 3)) (va_cons (ve_isX (c := .ref (He.ga K "BadNote")) (cv := .ref (He.ga K "BadNote")) (ct := xi_HammerError_BadNote) hz hf (pe_glob (v := .ref (He.ga K "BadNote")) (by rfl) (g_BadNote z) rfl (by decide)) (.own _) (xi_HammerError_BadNote_ok z) (by rfl) (g_isinstance z) (ve_var 3)) va_nil)))))) nd) (vss_cons (vs_set 4 (ve_add (ve_var 4) (ve_lst (va_cons (ve_isX (c := .ref (He.ga K "TooMany")) (cv := .ref (He.ga K "TooMany")) (ct := xi_HammerError_TooMany) hz hf (pe_glob (v := .ref (He.ga K "TooMany")) (by rfl) (g_TooMany z) rfl (by decide)) (.own _) (xi_HammerError_TooMany_ok z) (by rfl) (g_isinstance z) (ve_var 3)) (va_cons (ve_isX (c := .ref (He.ga K "Unknown")) (cv := .ref (He.ga K "Unknown")) (ct := xi_HammerError_Unknown) hz hf (pe_glob (v := .ref (He.ga K "Unknown")) (by rfl) (g_Unknown z) rfl (by decide)) (.own _) (xi_HammerError_Unknown_ok z) (by rfl) (g_isinstance z) (ve_var 3)) (va_cons (ve_isX (c := .ref (He.ga K "Taken")) (cv := .ref (He.ga K "Taken")) (ct := xi_HammerError_Taken) hz hf (pe_glob (v := .ref (He.ga K "Taken")) (by rfl) (g_Taken z) rfl (by decide)) (.own _) (xi_HammerError_Taken_ok z) (by rfl) (g_isinstance z) (ve_var 3)) (va_cons (ve_isX (c := .ref (He.ga K "Refused")) (cv := .ref (He.ga K "Refused")) (ct := xi_HammerError_Refused) hz hf (pe_glob (v := .ref (He.ga K "Refused")) (by rfl) (g_Refused z) rfl (by decide)) (.own _) (xi_HammerError_Refused_ok z) (by rfl) (g_isinstance z) (ve_var 3)) (va_cons (ve_isX (c := .ref (He.ga K "NothingToUndo")) (cv := .ref (He.ga K "NothingToUndo")) (ct := xi_HammerError_NothingToUndo) hz hf (pe_glob (v := .ref (He.ga K "NothingToUndo")) (by rfl) (g_NothingToUndo z) rfl (by decide)) (.own _) (xi_HammerError_NothingToUndo_ok z) (by rfl) (g_isinstance z) (ve_var 3)) va_nil))))))) nd) (vss_cons (vs_if (vt_w (vw_or (vt_not (vt_val (ve_isX (c := .ty "ValueError") (cv := .type "ValueError") (ct := xi_HammerError_ValueError) hz hf (pe_bltn (v := .ty "ValueError") (by rfl) (g_ValueError z) (by decide +kernel) rfl (by decide) (by decide)) (.ty _) (xi_HammerError_ValueError_ok z) (by rfl) (g_isinstance z) (ve_var 3)))) (vw_or (vt_val (ve_isX (c := .ty "LookupError") (cv := .type "LookupError") (ct := xi_HammerError_LookupError) hz hf (pe_bltn (v := .ty "LookupError") (by rfl) (g_LookupError z) (by decide +kernel) rfl (by decide) (by decide)) (.ty _) (xi_HammerError_LookupError_ok z) (by rfl) (g_isinstance z) (ve_var 3))) (vw_or1 (vt_val (ve_isX (c := .ty "RuntimeError") (cv := .type "RuntimeError") (ct := xi_HammerError_RuntimeError) hz hf (pe_bltn (v := .ty "RuntimeError") (by rfl) (g_RuntimeError z) (by decide +kernel) rfl (by decide) (by decide)) (.ty _) (xi_HammerError_RuntimeError_ok z) (by rfl) (g_isinstance z) (ve_var 3))))))) (vss_one (vs_ret ve_non)) vss_nil) (vss_cons (vs_set 5 ve_non nd) (vss_cons (vs_if (vt_vc (vc_in (Rm.mark hr) (ve_var 0) (ve_lst (va_cons ve_int (va_cons ve_int (va_cons ve_int (va_cons ve_int (va_cons ve_int va_nil)))))))) (vss_one (vs_set 5 (ve_xf (cs := ["BadNumber", "BadName", "BadEvent", "Unknown", "Taken"]) (xf_BadNumber_BadName_BadEvent_Unknown_Taken_value z) hz hf (ve_var 3)) nd)) vss_nil) (vss_cons (vs_if (vt_vc (vc_eq (Rm.mark hr) (ve_var 0) ve_int)) (vss_one (vs_set 5 (ve_xf (cs := ["BadItem"]) (xf_BadItem_index z) hz hf (ve_var 3)) nd)) vss_nil) (vss_cons (vs_if (vt_vc (vc_eq (Rm.mark hr) (ve_var 0) ve_int)) (vss_one (vs_set 5 (ve_xf (cs := ["BadNote"]) (xf_BadNote_line z) hz hf (ve_var 3)) nd)) vss_nil) (vss_cons (vs_if (vt_vc (vc_eq (Rm.mark hr) (ve_var 0) ve_int)) (vss_one (vs_set 5 (ve_xf (cs := ["TooMany"]) (xf_TooMany_limit z) hz hf (ve_var 3)) nd)) vss_nil) (vss_cons (vs_if (vt_vc (vc_eq (Rm.mark hr) (ve_var 0) ve_int)) (vss_one (vs_set 5 (ve_tup (va_cons (ve_xf (cs := ["Refused"]) (xf_Refused_reason z) hz hf (ve_var 3)) (va_cons (ve_xf (cs := ["Refused"]) (xf_Refused_names z) hz hf (ve_var 3)) va_nil))) nd)) vss_nil) (vss_one (vs_ret (ve_tup (va_cons (ve_var 4) (va_cons (ve_var 5) va_nil))))))))))))))) .nil)))) sc__law_raised.nd
theorem fc__law_raised {w : World} {K : PySem.W.Frag} {mg : Str → Option Value} {base : Heap} (z : Ax K mg base) : FCal PySem.Challenge.pw_hammerkept_k09_errors w K mg base 2 "_law_raised" p__law_raised := fcalD (z.c.d.def_ 3 rfl) (g__law_raised z) sc__law_raised (fun _ _ _ _ _ _ us hl => match us, hl with | [_, _, _], _ => rfl) (d__law_raised z)
/-! ### law -/
noncomputable def b_law : SF := (sSeq (sSet 1 (fObj (fCons (fVar 0) (fCons (fC (.int 0)) (fCons (fC (.int 53)) (fCons (fC (.int 0)) fNil))))))
  (sSeq (sFor (iRng1' (fCons (fC (.int 10)) fNil)) (tName 2) (sSeq (sSet 4 (fCall p__law_pick (fCons (fVar 1) (fCons (fLst (fCons (fC .non) (fCons (fC (.int 7)) (fCons (fC (.str "x")) (fCons (fTup (fCons (fC (.int 1)) (fCons (fC (.int 2)) fNil))) (fCons (fC (.bl true)) (fCons (fCall p__law_taken (fCons (fVar 1) (fCons (fOp opPow (fC (.int 10)) (fC (.int 9))) fNil))) fNil))))))) fNil))))
  (sSeq (sSet 5 (fCall p__law_pick (fCons (fVar 1) (fCons (fLst (fCons (fTup fNil) (fCons (fTup (fCons (fC (.str "a")) fNil)) fNil))) fNil))))
  (sSeq (sSet 6 (fCall p__law_raised (fCons (fVar 2) (fCons (fVar 4) (fCons (fVar 5) fNil)))))
  (sSeq (sIf (bOr (asB (fIsN false (fVar 6))) (asB (fOp opNe (fOp opIx (fVar 6) (fC (.int 0))) (fLc (iRng1' (fCons (fC (.int 10)) fNil)) (tName 8) bYes (fOp opEq (fVar 8) (fVar 2)) [8])))) (sRet (fC (.bl false))) sNil)
  (sSeq (sSet 7 (fVar 4))
  (sSeq (sIf (asB (fOp opEq (fVar 2) (fC (.int 8)))) (sSet 7 (fTup (fCons (fVar 4) (fCons (fVar 5) fNil)))) sNil)
  (sIf (bAnd (asB (fOp opLt (fVar 2) (fC (.int 9)))) (bOr (asB (fOp opNe (fOp opIx (fVar 6) (fC (.int 1))) (fVar 7))) (asB (fOp opNe (fIsi (isB "bool") ct_bool (fOp opIx (fVar 6) (fC (.int 1)))) (fIsi (isB "bool") ct_bool (fVar 7)))))) (sRet (fC (.bl false))) sNil))))))))
  (sSeq (sSet 3 (fLst (fCons (fC (.int 1)) (fCons (fC (.str "a")) (fCons (fC (.int 4)) (fCons (fC (.int 5)) (fCons (fC (.int 6)) fNil)))))))
  (sSeq (sSet 3 (fOp opAdd (fVar 3) (fLst (fCons (fC (.int 7)) (fCons (fC (.int 8)) (fCons (fC (.int 9)) (fCons (fSnd (fC (.str "r")) (fC (.int 11))) (fCons (fSnd (fC (.int 1)) (fC (.str "s"))) fNil))))))))
  (sRet (fCall (p__law_alike 3) (fCons (fVar 3) (fCons (fLst (fCons (fC (.int 1)) (fCons (fC (.str "a")) (fCons (fC (.int 4)) (fCons (fC (.int 5)) (fCons (fC (.int 6)) (fCons (fC (.int 7)) (fCons (fC (.int 8)) (fCons (fC (.int 9)) (fCons (fC (.int 11)) (fCons (fC (.str "s")) fNil))))))))))) fNil))))))))
theorem sc_law : FnScope ["script", "row", "number", "made", "value", "named", "told", "due", "k"] ["script"] (defScope (top 17)) := ⟨rfl, rfl, rfl, by decide +kernel, rfl, by decide +kernel, by decide +kernel⟩
noncomputable def p_law : List Val → Mem → R Val := phi 9 1 b_law
theorem d_law {w : World} {K : PySem.W.Frag} {mg : Str → Option Value} {base : Heap} (z : Ax K mg base) : BodyOk PySem.Challenge.pw_hammerkept_k09_errors w K mg base ["script", "row", "number", "made", "value", "named", "told", "due", "k"] "law" (defScope (top 17)) (defBody (top 17)) 4 b_law := fun f cdv A outer s H E hr tk hp => (fun nd => (vss_cons (vs_set 1 (ve_obj (va_cons (ve_var 0) (va_cons ve_int (va_cons ve_int (va_cons ve_int va_nil))))) nd) (vss_cons (vs_for hp (by rfl) (vi_range1 (by rfl) (g_range z) (va_cons ve_int va_nil)) (vg_name 2 nd) (vss_cons (vs_set 4 (ve_call (fc__law_pick z) hr (by decide) tk (va_cons (ve_var 1) (va_cons (ve_lst (va_cons ve_non (va_cons ve_int (va_cons ve_str (va_cons (ve_tup (va_cons ve_int (va_cons ve_int va_nil))) (va_cons ve_bl (va_cons (ve_call (fc__law_taken z) hr (by decide) tk (va_cons (ve_var 1) (va_cons (ve_pow ve_int ve_int) va_nil)) (by rfl)) va_nil))))))) va_nil)) (by rfl)) nd) (vss_cons (vs_set 5 (ve_call (fc__law_pick z) hr (by decide) tk (va_cons (ve_var 1) (va_cons (ve_lst (va_cons (ve_tup va_nil) (va_cons (ve_tup (va_cons ve_str va_nil)) va_nil))) va_nil)) (by rfl)) nd) (vss_cons (vs_set 6 (ve_call (fc__law_raised z) hr (by decide) tk (va_cons (ve_var 2) (va_cons (ve_var 4) (va_cons (ve_var 5) va_nil))) (by rfl)) nd) (vss_cons (vs_if (vt_w (vw_or (vt_vc (vc_isN (ve_var 6))) (vw_or1 (vt_vc (vc_ne (Rm.of hr) (ve_sub1 (ve_var 6) ve_int) (ve_lc (own := [("k", 8)]) (vi_range1 (by rfl) (g_range z) (va_cons ve_int va_nil)) hr.hd (by rfl) nd (blk_of (by kernel_rfl)) (by decide) (fun _ _ _ _ _ => (vg_name 8 nd)) (fun _ _ _ _ _ => vts_nil) (fun _ _ _ _ _ => (ve_vc (vc_eq (Rm.of hr) (ve_var 8) (ve_var 2)))))))))) (vss_one (vs_ret ve_bl)) vss_nil) (vss_cons (vs_set 7 (ve_var 4) nd) (vss_cons (vs_if (vt_vc (vc_eq (Rm.of hr) (ve_var 2) ve_int)) (vss_one (vs_set 7 (ve_tup (va_cons (ve_var 4) (va_cons (ve_var 5) va_nil))) nd)) vss_nil) (vss_one (vs_if (vt_w (vw_and (vt_vc (vc_lt (Rm.of hr) (ve_var 2) ve_int)) (vw_and1 (vt_w (vw_or (vt_vc (vc_ne (Rm.of hr) (ve_sub1 (ve_var 6) ve_int) (ve_var 7))) (vw_or1 (vt_vc (vc_ne (Rm.of hr) (ve_isiB (T := "bool") (ct := ct_bool) (hcs := ac_bool z) (hgT := by rfl) (hmT := (g_bool z)) (hv := by decide +kernel) (hg := by rfl) (hm := g_isinstance z) (he := (ve_sub1 (ve_var 6) ve_int))) (ve_isiB (T := "bool") (ct := ct_bool) (hcs := ac_bool z) (hgT := by rfl) (hmT := (g_bool z)) (hv := by decide +kernel) (hg := by rfl) (hm := g_isinstance z) (he := (ve_var 7))))))))))) (vss_one (vs_ret ve_bl)) vss_nil))))))))) (vss_cons (vs_set 3 (ve_lst (va_cons (ve_xkw1 (ec_BadNumber z) (xk_BadNumber_value z) hr (by rfl) ve_int) (va_cons (ve_xkw1 (ec_BadName z) (xk_BadName_value z) hr (by rfl) ve_str) (va_cons (ve_xkw1 (ec_BadItem z) (xk_BadItem_index z) hr (by rfl) ve_int) (va_cons (ve_xkw1 (ec_BadEvent z) (xk_BadEvent_value z) hr (by rfl) ve_int) (va_cons (ve_xkw1 (ec_BadNote z) (xk_BadNote_line z) hr (by rfl) ve_int) va_nil)))))) nd) (vss_cons (vs_set 3 (ve_add (ve_var 3) (ve_lst (va_cons (ve_xkw1 (ec_TooMany z) (xk_TooMany_limit z) hr (by rfl) ve_int) (va_cons (ve_xkw1 (ec_Unknown z) (xk_Unknown_value z) hr (by rfl) ve_int) (va_cons (ve_xkw1 (ec_Taken z) (xk_Taken_value z) hr (by rfl) ve_int) (va_cons (ve_xkw2 (ec_Refused z) (.inl ⟨rfl, rfl⟩) (xk_Refused_names z) hr (by rfl) ve_str ve_int) (va_cons (ve_xkw2 (ec_Refused z) (.inr ⟨rfl, rfl⟩) (xk_Refused_reason z) hr (by rfl) ve_int ve_str) va_nil))))))) nd) (vss_one (vs_ret (ve_call (fc__law_alike z 3) hr (by decide) tk (va_cons (ve_var 3) (va_cons (ve_lst (va_cons ve_int (va_cons ve_str (va_cons ve_int (va_cons ve_int (va_cons ve_int (va_cons ve_int (va_cons ve_int (va_cons ve_int (va_cons ve_int (va_cons ve_str va_nil))))))))))) va_nil)) (by rfl))))))))) sc_law.nd
theorem fc_law {w : World} {K : PySem.W.Frag} {mg : Str → Option Value} {base : Heap} (z : Ax K mg base) : FCal PySem.Challenge.pw_hammerkept_k09_errors w K mg base 5 "law" p_law := fcalD (z.c.d.def_ 4 rfl) (g_law z) sc_law (fun _ _ _ _ _ _ us hl => match us, hl with | [_], _ => rfl) (d_law z)
/-! ### the head -/
def loose0 : List Str := ["__name__", "HammerError", "BadNumber", "BadName", "BadItem", "BadEvent", "BadNote", "TooMany", "Unknown", "Taken", "Refused", "NothingToUndo", "_law_taken", "_law_pick", "_law_alike", "_law_raised"]
abbrev loose : List Str := loose0
abbrev Rw : PySem.W.OpenRow := PySem.W.OpenLaw.row PySem.Challenge.rw_hammerkept_k09_errors
abbrev hk : PySem.W.Hook := hookV 6 hd
def ob (s : PySem.W.SharedT) : AlV := obsVG 6 hd (HandSHeadRun.getT s)
theorem ob_eq (s : PySem.W.SharedT) : ob s = hk.obs s.abs := obsVG_eq (HandSHeadRun.getT_eq s)
theorem run (w : World) : HandSHeadRun.RunEq Rw (PySem.W.view Rw.prog [17]) hk ob 3000 loose w := by
  intro os
  kernel_rfl
end Wk09
set_option Elab.async false
set_option linter.all false
set_option maxRecDepth 100000
set_option maxHeartbeats 2000000
/-! Vs1: reads and writes of an object of the def's own, ==, and the drawing of a number from the script. -/
namespace Vl
open PySem PySem.Spec PyProof.Rows L2 Vx
section
variable (M : Mem) (e : En) (f g h : EF)
@[simp] theorem x_ixO (k : Nat) (i : Int) : opIx (.obj k) (.d (.int i)) M = match M[k]? with
  | some (.lst l) => (match atI l i with
    | some x => .ok (.d x) M
    | none => .bad)
  | _ => .bad := by
  show (match rdS M (.obj k) with | some l => (match atI l i with | some x => R.ok (Val.d x) M | none => .bad) | none => .bad) = _
  unfold rdS rdT rdL plL
  dsimp only
  cases M[k]? with
  | none => rfl
  | some o => cases o <;> rfl
@[simp] theorem x_putL (x : D) (k : Nat) (n : Int) : putL (.d x) (.obj k) (.d (.int n)) M = match M[k]? with
  | some (.lst l) => (match ixN l.length n with
    | some j => some (M.set k (.lst (l.set j x)))
    | none => none)
  | _ => none := by
  unfold putL
  dsimp only
  all_goals (cases M[k]? with
    | none => rfl
    | some o => cases o <;> rfl)
@[simp] theorem x_sSetL : sSetL f g h e M = rO (h e M) e fun v M1 => rO (f e M1) e fun o M2 => rO (g e M2) e fun i M3 => match putL v o i M3 with
  | some M4 => .nx e M4
  | none => .bad := rfl
@[simp] theorem x_eqI (i j : Int) : opEq (.d (.int i)) (.d (.int j)) M = .ok (.d (.bl (decide (i = j)))) M := by
  show (if SeqAt.shaped (.int i) = true ∧ SeqAt.shaped (.int j) = true then R.ok (Val.d (.bl (PyData.eqv (.int i) (.int j)))) M else .bad) = _
  rw [if_pos ⟨rfl, rfl⟩]
  simp [PyData.eqv]
  rfl
@[simp] theorem x_eqBl (i j : Bool) : opEq (.d (.bl i)) (.d (.bl j)) M = .ok (.d (.bl (decide (i = j)))) M := by cases i <;> cases j <;> rfl
@[simp] theorem x_neBl (i j : Bool) : opNe (.d (.bl i)) (.d (.bl j)) M = .ok (.d (.bl (!decide (i = j)))) M := by cases i <;> cases j <;> rfl
@[simp] theorem x_neI (i j : Int) : opNe (.d (.int i)) (.d (.int j)) M = .ok (.d (.bl (!decide (i = j)))) M := by
  show (if SeqAt.shaped (.int i) = true ∧ SeqAt.shaped (.int j) = true then R.ok (Val.d (.bl (!PyData.eqv (.int i) (.int j)))) M else .bad) = _
  rw [if_pos ⟨rfl, rfl⟩]
  simp [PyData.eqv]
  rfl
end
@[simp] theorem x_big : big = 16777216 := rfl
/-! ### drawing -/
noncomputable def takenF : SF := (sSeq (sIf (asB (fOp opGt (fOp opIx (fVar 0) (fC (.int 3))) (fC (.int 0)))) (sSeq (sSet 3 (fOp opMod (fun e M => rbind ((fCons (fOp opIx (fVar 0) (fC (.int 3))) fNil) e M) bInt) (fVar 1)))
  (sSeq (sSetL (fVar 0) (fC (.int 3)) (fOp opFdiv (fOp opIx (fVar 0) (fC (.int 3))) (fVar 1)))
  (sRet (fVar 3)))) sNil)
  (sSeq (sSetL (fVar 0) (fC (.int 1)) (fOp opAdd (fOp opIx (fVar 0) (fC (.int 1))) (fC (.int 1))))
  (sSeq (sIf (asB (fOp opGt (fOp opIx (fVar 0) (fC (.int 1))) (fun e M => rbind ((fCons (fOp opIx (fVar 0) (fC (.int 0))) fNil) e M) bLen))) (sSeq (sSetL (fVar 0) (fC (.int 2)) (fOp opMod (fun e M => rbind ((fCons (fOp opAdd (fOp opMul (fOp opIx (fVar 0) (fC (.int 2))) (fC (.int 48271))) (fC (.int 11))) fNil) e M) bInt) (fC (.int 2147483647))))
  (sRet (fOp opMod (fun e M => rbind ((fCons (fOp opFdiv (fOp opIx (fVar 0) (fC (.int 2))) (fC (.int 7))) fNil) e M) bInt) (fVar 1)))) sNil)
  (sSeq (sSet 2 (fOp opIx (fOp opIx (fVar 0) (fC (.int 0))) (fOp opSub (fOp opIx (fVar 0) (fC (.int 1))) (fC (.int 1)))))
  (sSeq (sSetL (fVar 0) (fC (.int 2)) (fOp opMod (fun e M => rbind ((fCons (fOp opAdd (fOp opAdd (fOp opMul (fOp opIx (fVar 0) (fC (.int 2))) (fC (.int 48271))) (fVar 2)) (fC (.int 11))) fNil) e M) bInt) (fC (.int 2147483647))))
  (sSeq (sIf (asB (fOp opGe (fVar 2) (fOp opPow (fC (.int 10)) (fC (.int 18))))) (sSetL (fVar 0) (fC (.int 3)) (fOp opFdiv (fVar 2) (fVar 1))) sNil)
  (sRet (fOp opMod (fun e M => rbind ((fCons (fVar 2) fNil) e M) bInt) (fVar 1)))))))))
/-- the row of the draws: the script, how many are read, the seed, the rest -/
def rowO (ns : List Int) (b c d : Int) : MO := .lst [.scr ns, .int b, .int c, .int d]
@[simp] theorem at4_0 (a b c d : D) : atI [a, b, c, d] 0 = some a := rfl
@[simp] theorem at4_1 (a b c d : D) : atI [a, b, c, d] 1 = some b := rfl
@[simp] theorem at4_2 (a b c d : D) : atI [a, b, c, d] 2 = some c := rfl
@[simp] theorem at4_3 (a b c d : D) : atI [a, b, c, d] 3 = some d := rfl
@[simp] theorem ix4_0 : ixN 4 0 = some 0 := rfl
@[simp] theorem ix4_1 : ixN 4 1 = some 1 := rfl
@[simp] theorem ix4_2 : ixN 4 2 = some 2 := rfl
@[simp] theorem ix4_3 : ixN 4 3 = some 3 := rfl
theorem cmul_r {i j : Int} (h : -(2 ^ 64) < j ∧ j < 2 ^ 64) : CMul i j := .inr h
theorem cmul_seed (i : Int) : CMul i 48271 := .inr (by decide)
theorem atI_in {α : Type} {l : List α} {i : Int} (h0 : 0 ≤ i) (h1 : i < l.length) : ∃ x, atI l i = some x ∧ x ∈ l := by
  have h2 : i.toNat < l.length := by omega
  refine ⟨l[i.toNat], ?_, List.getElem_mem h2⟩
  unfold atI ixN
  rw [if_pos h0, if_pos h1, Option.bind_some, List.getElem?_eq_getElem h2]
theorem taken_ok {M : Mem} {k : Nat} {ns : List Int} {b c d m : Int} (hM : M[k]? = some (rowO ns b c d)) (hb : 0 ≤ b) (h0 : 0 < m) (h1 : m < 1073741824) :
    ∃ r b' c' d', 0 ≤ r ∧ r < m ∧ 0 ≤ b' ∧ phi 4 2 takenF [.obj k, .d (.int m)] M = .ok (.d (.int r)) (M.set k (rowO ns b' c' d')) := by
  have hk : k < M.length := by
    rcases Nat.lt_or_ge k M.length with h | h
    · exact h
    · rw [List.getElem?_eq_none h] at hM
      cases hM
  have hcd : CDiv d m := ⟨h0, h1⟩
  have e : ∀ o, (M.set k o)[k]? = some o := fun o => List.getElem?_set_self hk
  unfold rowO at hM
  by_cases hd : 0 < d
  · refine ⟨d % m, b, c, d / m, Int.emod_nonneg _ (by omega), Int.emod_lt_of_pos _ h0, hb, (x_call rfl (v := .d (.int (d % m))) ?_).trans (x_finish _ _ _ (by rw [List.length_set]))⟩
    simp [takenF, env0, hM, hd, h0, hcd, rowO]
  · by_cases hl : b + 1 > ns.length
    · refine ⟨(c * 48271 + 11) % 2147483647 / 7 % m, b + 1, (c * 48271 + 11) % 2147483647, d, Int.emod_nonneg _ (by omega), Int.emod_lt_of_pos _ h0, by omega, (x_call rfl (v := .d (.int ((c * 48271 + 11) % 2147483647 / 7 % m))) ?_).trans (x_finish _ _ _ (by rw [List.length_set]))⟩
      have hc7 : ∀ i, CDiv i 7 := fun i => ⟨by decide, by decide⟩
      simp [takenF, env0, hM, e, hd, hl, h0, hcd, rowO, cmul_seed, hc7]
    · obtain ⟨x, ex, hx⟩ := atI_in (l := ns.map D.int) (i := b + 1 - 1) (by omega) (by rw [List.length_map]; omega)
      obtain ⟨cell, hc, rfl⟩ := List.mem_map.mp hx
      have hp : CPow 10 18 := ⟨by decide, by decide, by decide⟩
      have hcm : CDiv cell m := ⟨h0, h1⟩
      have hs : b + 1 - 1 = b := by omega
      rw [hs] at ex
      by_cases hbig : (1000000000000000000 : Int) ≤ cell
      · refine ⟨cell % m, b + 1, (c * 48271 + cell + 11) % 2147483647, cell / m, Int.emod_nonneg _ (by omega), Int.emod_lt_of_pos _ h0, by omega, (x_call rfl (v := .d (.int (cell % m))) ?_).trans (x_finish _ _ _ (by rw [List.length_set]))⟩
        simp [takenF, env0, hM, e, hd, hl, h0, hcm, rowO, cmul_seed, ex, hp, hbig, hs]
      · refine ⟨cell % m, b + 1, (c * 48271 + cell + 11) % 2147483647, d, Int.emod_nonneg _ (by omega), Int.emod_lt_of_pos _ h0, by omega, (x_call rfl (v := .d (.int (cell % m))) ?_).trans (x_finish _ _ _ (by rw [List.length_set]))⟩
        simp [takenF, env0, hM, e, hd, hl, h0, hcm, rowO, cmul_seed, ex, hp, hbig, hs]
noncomputable def pickF : SF := (sRet (fOp opIx (fVar 1) (fCall (phi 4 2 takenF) (fCons (fVar 0) (fCons (fun e M => rbind ((fCons (fVar 1) fNil) e M) bLen) fNil)))))
theorem pick_ok {M : Mem} {k : Nat} {ns : List Int} {b c d : Int} {l : List D} (hM : M[k]? = some (rowO ns b c d)) (hb : 0 ≤ b) (h0 : 0 < l.length) (h1 : l.length < 1073741824) :
    ∃ x b' c' d', x ∈ l ∧ 0 ≤ b' ∧ phi 2 2 pickF [.obj k, .d (.lst l)] M = .ok (.d x) (M.set k (rowO ns b' c' d')) := by
  obtain ⟨r, b', c', d', r0, r1, hb', e⟩ := taken_ok (m := (l.length : Int)) hM hb (by omega) (by omega)
  obtain ⟨x, ex, hx⟩ := atI_in r0 r1
  refine ⟨x, b', c', d', hx, hb', (x_call rfl (v := .d x) ?_).trans (x_finish _ _ _ (by rw [List.length_set]))⟩
  simp [pickF, env0, e, ex]
theorem pick_ok_t {M : Mem} {k : Nat} {ns : List Int} {b c d : Int} {l : List D} (hM : M[k]? = some (rowO ns b c d)) (hb : 0 ≤ b) (h0 : 0 < l.length) (h1 : l.length < 1073741824) :
    ∃ x b' c' d', x ∈ l ∧ 0 ≤ b' ∧ phi 2 2 pickF [.obj k, .d (.tup l)] M = .ok (.d x) (M.set k (rowO ns b' c' d')) := by
  obtain ⟨r, b', c', d', r0, r1, hb', e⟩ := taken_ok (m := (l.length : Int)) hM hb (by omega) (by omega)
  obtain ⟨x, ex, hx⟩ := atI_in r0 r1
  refine ⟨x, b', c', d', hx, hb', (x_call rfl (v := .d x) ?_).trans (x_finish _ _ _ (by rw [List.length_set]))⟩
  simp [pickF, env0, e, ex]
/-! ### two answers alike -/
abbrev cN (_ : Str) : Option Bool := none
noncomputable def alikeLC (φ : List Val → Mem → R Val) : EF := (fLc (iRng1' (fCons (fun e M => rbind ((fCons (fVar 1) fNil) e M) bLen) fNil)) (tName 2) (bNot (asT (fCall φ (fCons (fOp opIx (fVar 0) (fVar 2)) (fCons (fOp opIx (fVar 1) (fVar 2)) fNil))))) (fVar 2) [2])
noncomputable def alikeG (lc : EF) : SF := (sSeq (sIf (asT (fIsi (fun n => isB "tuple" n || isB "list" n) (fun _ => none) (fVar 1))) (sSeq (sIf (bOr (bNot (asT (fIsi (fun n => isB "tuple" n || isB "list" n) (fun _ => none) (fVar 0)))) (asB (fOp opNe (fIsi (isB "list") cN (fVar 0)) (fIsi (isB "list") cN (fVar 1))))) (sRet (fC (.bl false))) sNil)
  (sSeq (sIf (asB (fOp opNe (fun e M => rbind ((fCons (fVar 0) fNil) e M) bLen) (fun e M => rbind ((fCons (fVar 1) fNil) e M) bLen))) (sRet (fC (.bl false))) sNil)
  (sRet (fOp opEq lc (fLst fNil))))) sNil)
  (sSeq (sIf (bOr (asB (fIsN false (fVar 1))) (asT (fIsi (isB "str") cN (fVar 1)))) (sRet (fAnd (fOp opEq (fVar 0) (fVar 1)) (fOp opEq (fIsi (isB "str") cN (fVar 0)) (fIsi (isB "str") cN (fVar 1))))) sNil)
  (sRet (fAnd (fIsi (isB "int") cN (fVar 0)) (fAnd (fOp opEq (fIsi (isB "bool") cN (fVar 0)) (fIsi (isB "bool") cN (fVar 1))) (fOp opEq (fVar 0) (fVar 1)))))))
theorem x_rng1 {fs : En → Mem → R (List Val)} {e : En} {M M1 : Mem} {j : Int} (h : fs e M = .ok [.d (.int j)] M1) (hj : smallI j) : iRng1' fs e M = .ok (ivRng 0 j.toNat) M1 := by
  unfold iRng1'
  rw [h]
  exact if_pos hj
theorem small_nat {n : Nat} (h : n ≤ big) : smallI (n : Int) := by
  have h : n ≤ 16777216 := h
  unfold smallI
  constructor <;> omega
theorem x_eqE (M : Mem) : opEq (.d (.lst [])) (.d (.lst [])) M = .ok (.d (.bl true)) M := rfl
theorem eq_str (z : Str) (h : SeqAt.shaped (.str z) = true) (M : Mem) : opEq (.d (.str z)) (.d (.str z)) M = .ok (.d (.bl true)) M := by
  unfold opEq
  rw [if_pos ⟨h, h⟩]
  simp [pyOf, toPy, PyData.eqv]
section
variable {lc : EF} {M : Mem} {φ : List Val → Mem → R Val}
theorem alike_i (i : Int) : phi 3 2 (alikeG lc) [.d (.int i), .d (.int i)] M = .ok (.d (.bl true)) M := by
  refine (x_call rfl (v := .d (.bl true)) (M' := M) ?_).trans (x_finish _ _ _ rfl)
  simp [alikeG, env0, isB]
theorem alike_b (i : Bool) : phi 3 2 (alikeG lc) [.d (.bl i), .d (.bl i)] M = .ok (.d (.bl true)) M := by
  refine (x_call rfl (v := .d (.bl true)) (M' := M) ?_).trans (x_finish _ _ _ rfl)
  simp [alikeG, env0, isB]
theorem alike_n : phi 3 2 (alikeG lc) [.d .non, .d .non] M = .ok (.d (.bl true)) M := by
  refine (x_call rfl (v := .d (.bl true)) (M' := M) ?_).trans (x_finish _ _ _ rfl)
  have : opEq (.d .non) (.d .non) M = .ok (.d (.bl true)) M := rfl
  simp [alikeG, env0, isB, this]
theorem alike_s (z : Str) (h : SeqAt.shaped (.str z) = true) : phi 3 2 (alikeG lc) [.d (.str z), .d (.str z)] M = .ok (.d (.bl true)) M := by
  refine (x_call rfl (v := .d (.bl true)) (M' := M) ?_).trans (x_finish _ _ _ rfl)
  simp [alikeG, env0, isB, eq_str z h]
theorem alikeG_l {l : List D} (h : lc [some (.d (.lst l)), some (.d (.lst l)), none] M = .ok (.d (.lst [])) M) : phi 3 2 (alikeG lc) [.d (.lst l), .d (.lst l)] M = .ok (.d (.bl true)) M := by
  refine (x_call rfl (v := .d (.bl true)) (M' := M) ?_).trans (x_finish _ _ _ rfl)
  simp [alikeG, env0, isB, h, x_eqE]
theorem alikeG_t {l : List D} (h : lc [some (.d (.tup l)), some (.d (.tup l)), none] M = .ok (.d (.lst [])) M) : phi 3 2 (alikeG lc) [.d (.tup l), .d (.tup l)] M = .ok (.d (.bl true)) M := by
  refine (x_call rfl (v := .d (.bl true)) (M' := M) ?_).trans (x_finish _ _ _ rfl)
  simp [alikeG, env0, isB, h, x_eqE]
theorem alikeLC_l {l : List D} (hl : l.length ≤ big) (h : ∀ x ∈ l, φ [.d x, .d x] M = .ok (.d (.bl true)) M) : alikeLC φ [some (.d (.lst l)), some (.d (.lst l)), none] M = .ok (.d (.lst [])) M := by
  have hi := x_rng1 (fs := fCons (fun e M => rbind ((fCons (fVar 1) fNil) e M) bLen) fNil) (e := [some (.d (.lst l)), some (.d (.lst l)), none]) (M := M) (M1 := M) (j := (l.length : Int)) rfl (small_nat hl)
  rw [Int.toNat_natCast] at hi
  have key := x_fLc (t := tName 2) (ts := bNot (asT (fCall φ (fCons (fOp opIx (fVar 0) (fVar 2)) (fCons (fOp opIx (fVar 1) (fVar 2)) fNil))))) (el := fVar 2) (vs := [2]) hi trivial (by show (rngD 0 l.length).length ≤ big; rw [rngD_length]; exact hl) (fun x => [some (.d (.lst l)), some (.d (.lst l)), some (.d x)]) (fun _ => false) (fun x => x) (fun x hx => rfl) (fun x hx => by
    obtain ⟨i, hi, rfl⟩ := List.mem_map.mp hx
    have hi2 : i < l.length := List.mem_range.mp hi
    obtain ⟨y, ey, hy⟩ := atI_in (l := l) (i := 0 + (i : Int)) (by omega) (by omega)
    rw [Int.zero_add] at ey
    simp [ey, h y hy]) (fun x hx z => nomatch z)
  have e0 : (ivRng 0 l.length).l.filter (fun _ => false) = [] := by simp
  rw [e0] at key
  exact key
theorem alikeLC_t {l : List D} (hl : l.length ≤ big) (h : ∀ x ∈ l, φ [.d x, .d x] M = .ok (.d (.bl true)) M) : alikeLC φ [some (.d (.tup l)), some (.d (.tup l)), none] M = .ok (.d (.lst [])) M := by
  have hi := x_rng1 (fs := fCons (fun e M => rbind ((fCons (fVar 1) fNil) e M) bLen) fNil) (e := [some (.d (.tup l)), some (.d (.tup l)), none]) (M := M) (M1 := M) (j := (l.length : Int)) rfl (small_nat hl)
  rw [Int.toNat_natCast] at hi
  have key := x_fLc (t := tName 2) (ts := bNot (asT (fCall φ (fCons (fOp opIx (fVar 0) (fVar 2)) (fCons (fOp opIx (fVar 1) (fVar 2)) fNil))))) (el := fVar 2) (vs := [2]) hi trivial (by show (rngD 0 l.length).length ≤ big; rw [rngD_length]; exact hl) (fun x => [some (.d (.tup l)), some (.d (.tup l)), some (.d x)]) (fun _ => false) (fun x => x) (fun x hx => rfl) (fun x hx => by
    obtain ⟨i, hi, rfl⟩ := List.mem_map.mp hx
    have hi2 : i < l.length := List.mem_range.mp hi
    obtain ⟨y, ey, hy⟩ := atI_in (l := l) (i := 0 + (i : Int)) (by omega) (by omega)
    rw [Int.zero_add] at ey
    simp [ey, h y hy]) (fun x hx z => nomatch z)
  have e0 : (ivRng 0 l.length).l.filter (fun _ => false) = [] := by simp
  rw [e0] at key
  exact key
end
end Vl
set_option Elab.async false
set_option linter.all false
set_option maxRecDepth 100000
set_option maxHeartbeats 4000000
/-! Mk09: what the defs compute. -/
namespace Wk09
open PySem PySem.Spec PyProof.Rows L2 Vl Vx
def kindsOf (n : Nat) : List D := (List.range 10).map fun k => .bl (k == n)
def fieldOf (n : Nat) (v w : D) : D := if n = 8 then .tup [v, w] else if n = 9 then .non else v
theorem r_raised (n : Nat) (h : n < 10) (v w : D) (M : Mem) : p__law_raised [.d (.int n), .d v, .d w] M = .ok (.d (.tup [.lst (kindsOf n), fieldOf n v w])) M := by
  have h1 : n = 0 ∨ n = 1 ∨ n = 2 ∨ n = 3 ∨ n = 4 ∨ n = 5 ∨ n = 6 ∨ n = 7 ∨ n = 8 ∨ n = 9 := by omega
  refine (x_call rfl (v := .d (.tup [.lst (kindsOf n), fieldOf n v w])) (M' := M) ?_).trans (x_finish _ _ _ rfl)
  rcases h1 with rfl | rfl | rfl | rfl | rfl | rfl | rfl | rfl | rfl | rfl <;> rfl
noncomputable def bodyF : SF := (sSeq (sSet 4 (fCall p__law_pick (fCons (fVar 1) (fCons (fLst (fCons (fC .non) (fCons (fC (.int 7)) (fCons (fC (.str "x")) (fCons (fTup (fCons (fC (.int 1)) (fCons (fC (.int 2)) fNil))) (fCons (fC (.bl true)) (fCons (fCall p__law_taken (fCons (fVar 1) (fCons (fOp opPow (fC (.int 10)) (fC (.int 9))) fNil))) fNil))))))) fNil))))
  (sSeq (sSet 5 (fCall p__law_pick (fCons (fVar 1) (fCons (fLst (fCons (fTup fNil) (fCons (fTup (fCons (fC (.str "a")) fNil)) fNil))) fNil))))
  (sSeq (sSet 6 (fCall p__law_raised (fCons (fVar 2) (fCons (fVar 4) (fCons (fVar 5) fNil)))))
  (sSeq (sIf (bOr (asB (fIsN false (fVar 6))) (asB (fOp opNe (fOp opIx (fVar 6) (fC (.int 0))) (fLc (iRng1' (fCons (fC (.int 10)) fNil)) (tName 8) bYes (fOp opEq (fVar 8) (fVar 2)) [8])))) (sRet (fC (.bl false))) sNil)
  (sSeq (sSet 7 (fVar 4))
  (sSeq (sIf (asB (fOp opEq (fVar 2) (fC (.int 8)))) (sSet 7 (fTup (fCons (fVar 4) (fCons (fVar 5) fNil)))) sNil)
  (sIf (bAnd (asB (fOp opLt (fVar 2) (fC (.int 9)))) (bOr (asB (fOp opNe (fOp opIx (fVar 6) (fC (.int 1))) (fVar 7))) (asB (fOp opNe (fIsi (isB "bool") ct_bool (fOp opIx (fVar 6) (fC (.int 1)))) (fIsi (isB "bool") ct_bool (fVar 7)))))) (sRet (fC (.bl false))) sNil)))))))
abbrev L (r : Int) : List D := [.non, .int 7, .str "x", .tup [.int 1, .int 2], .bl true, .int r]
abbrev L2' : List D := [.tup [], .tup [.str "a"]]
theorem good {r : Int} {x w : D} (hx : x ∈ L r) (hw : w ∈ L2') (n : Nat) (M : Mem) : opNe (.d (if n = 8 then .tup [x, w] else x)) (.d (if n = 8 then .tup [x, w] else x)) M = .ok (.d (.bl false)) M ∧ ∃ b, isiR (isB "bool") ct_bool M (.d (if n = 8 then .tup [x, w] else x)) = .ok (.d (.bl b)) M := by
  by_cases h : n = 8
  · rw [if_pos h]
    refine ⟨?_, _, rfl⟩
    simp only [List.mem_cons, List.not_mem_nil, or_false] at hx hw
    rcases hx with rfl | rfl | rfl | rfl | rfl | rfl <;> rcases hw with rfl | rfl <;> (unfold opNe; rw [if_pos ⟨by first | rfl | kernel_rfl, by first | rfl | kernel_rfl⟩]; simp [pyOf, toPy, toPys, PyData.eqv, PyData.eqvAll])
  · rw [if_neg h]
    simp only [List.mem_cons, List.not_mem_nil, or_false] at hx
    rcases hx with rfl | rfl | rfl | rfl | rfl | rfl <;> (refine ⟨?_, _, rfl⟩; unfold opNe; rw [if_pos ⟨by first | rfl | kernel_rfl, by first | rfl | kernel_rfl⟩]; simp [pyOf, toPy, toPys, PyData.eqv, PyData.eqvAll])
theorem kinds_ne (n : Nat) (h : n < 10) (M : Mem) : opNe (.d (.lst (kindsOf n))) (.d (.lst (kindsOf n))) M = .ok (.d (.bl false)) M := by
  have h1 : n = 0 ∨ n = 1 ∨ n = 2 ∨ n = 3 ∨ n = 4 ∨ n = 5 ∨ n = 6 ∨ n = 7 ∨ n = 8 ∨ n = 9 := by omega
  rcases h1 with rfl | rfl | rfl | rfl | rfl | rfl | rfl | rfl | rfl | rfl <;> rfl
theorem kinds_lc (n : Nat) (h : n < 10) (e0 e1 e3 e4 e5 e6 e7 : Option Val) (M : Mem) : fLc (iRng1' (fCons (fC (.int 10)) fNil)) (tName 8) bYes (fOp opEq (fVar 8) (fVar 2)) [8] [e0, e1, some (.d (.int n)), e3, e4, e5, e6, e7, none] M = .ok (.d (.lst (kindsOf n))) M := by
  have h1 : n = 0 ∨ n = 1 ∨ n = 2 ∨ n = 3 ∨ n = 4 ∨ n = 5 ∨ n = 6 ∨ n = 7 ∨ n = 8 ∨ n = 9 := by omega
  have key := x_fLc (fi := iRng1' (fCons (fC (.int 10)) fNil)) (t := tName 8) (ts := bYes) (el := fOp opEq (fVar 8) (fVar 2)) (vs := [8]) (e := [e0, e1, some (.d (.int n)), e3, e4, e5, e6, e7, none]) (M := M) (M1 := M) (v := ivRng 0 10) rfl trivial (by decide) (fun x => [e0, e1, some (.d (.int n)), e3, e4, e5, e6, e7, some (.d x)]) (fun _ => true)
    (fun x => match x with
      | .int i => .bl (decide (i = n))
      | _ => .non) (fun x hx => rfl) (fun x hx => rfl) (fun x hx _ => by
        obtain ⟨i, hi, rfl⟩ := List.mem_map.mp hx
        simp)
  rw [key]
  rcases h1 with rfl | rfl | rfl | rfl | rfl | rfl | rfl | rfl | rfl | rfl <;> rfl
theorem fieldOf_lt {n : Nat} (h : n < 9) (v w : D) : fieldOf n v w = if n = 8 then .tup [v, w] else v := by
  unfold fieldOf
  by_cases h8 : n = 8
  · rw [if_pos h8, if_pos h8]
  · rw [if_neg h8, if_neg h8, if_neg (by omega)]
@[simp] theorem at2_0 (a b : D) : atI [a, b] 0 = some a := rfl
@[simp] theorem at2_1 (a b : D) : atI [a, b] 1 = some b := rfl
abbrev env9 (ns : List Int) (a2 a3 a4 a5 a6 a7 : Option Val) : En := [some (.d (.scr ns)), some (.obj 0), a2, a3, a4, a5, a6, a7, none]
theorem iter_ok {ns : List Int} {b c d : Int} (hb : 0 ≤ b) (n : Nat) (hn : n < 10) (a3 a4 a5 a6 a7 : Option Val) :
    ∃ b' c' d' a4' a5' a6' a7', 0 ≤ b' ∧ bodyF (env9 ns (some (.d (.int n))) a3 a4 a5 a6 a7) [rowO ns b c d] = .nx (env9 ns (some (.d (.int n))) a3 a4' a5' a6' a7') [rowO ns b' c' d'] := by
  obtain ⟨r, b1, c1, d1, _, _, hb1, t1⟩ := taken_ok (M := [rowO ns b c d]) (k := 0) (m := 1000000000) rfl hb (by decide) (by decide)
  obtain ⟨x, b2, c2, d2, hx, hb2, t2⟩ := pick_ok (M := [rowO ns b1 c1 d1]) (k := 0) (l := L r) rfl hb1 (by show 0 < 6; decide) (by show 6 < _; decide)
  obtain ⟨w, b3, c3, d3, hw, hb3, t3⟩ := pick_ok (M := [rowO ns b2 c2 d2]) (k := 0) (l := L2') rfl hb2 (by decide) (by decide)
  have t1 : p__law_taken [.obj 0, .d (.int 1000000000)] [rowO ns b c d] = .ok (.d (.int r)) [rowO ns b1 c1 d1] := t1
  have t2 : p__law_pick [.obj 0, .d (.lst (L r))] [rowO ns b1 c1 d1] = .ok (.d x) [rowO ns b2 c2 d2] := t2
  have t3 : p__law_pick [.obj 0, .d (.lst L2')] [rowO ns b2 c2 d2] = .ok (.d w) [rowO ns b3 c3 d3] := t3
  have t4 := r_raised n hn x w [rowO ns b3 c3 d3]
  obtain ⟨g1, bb, g2⟩ := good hx hw n [rowO ns b3 c3 d3]
  have k1 := kinds_ne n hn [rowO ns b3 c3 d3]
  have k2 := fun e0 e1 e3 e4 e5 e6 e7 => kinds_lc n hn e0 e1 e3 e4 e5 e6 e7 [rowO ns b3 c3 d3]
  have hp : CPow 10 9 := ⟨by decide, by decide, by decide⟩
  by_cases h9 : n = 9
  · subst h9
    refine ⟨b3, c3, d3, some (.d x), some (.d w), some (.d (.tup [.lst (kindsOf 9), fieldOf 9 x w])), some (.d x), hb3, ?_⟩
    have t4 : p__law_raised [.d (.int 9), .d x, .d w] [rowO ns b3 c3 d3] = .ok (.d (.tup [.lst (kindsOf 9), fieldOf 9 x w])) [rowO ns b3 c3 d3] := t4
    have k2 : ∀ e0 e1 e3 e4 e5 e6 e7, fLc (iRng1' (fCons (fC (.int 10)) fNil)) (tName 8) bYes (fOp opEq (fVar 8) (fVar 2)) [8] [e0, e1, some (.d (.int 9)), e3, e4, e5, e6, e7, none] [rowO ns b3 c3 d3] = .ok (.d (.lst (kindsOf 9))) [rowO ns b3 c3 d3] := k2
    simp [bodyF, hp, t1, t2, t3, t4, k1, k2]
  · have hlt : n < 9 := by omega
    rw [fieldOf_lt hlt] at t4
    by_cases h8 : n = 8
    · subst h8
      rw [if_pos rfl] at g1 g2 t4
      refine ⟨b3, c3, d3, some (.d x), some (.d w), some (.d (.tup [.lst (kindsOf 8), .tup [x, w]])), some (.d (.tup [x, w])), hb3, ?_⟩
      have t4 : p__law_raised [.d (.int 8), .d x, .d w] [rowO ns b3 c3 d3] = .ok (.d (.tup [.lst (kindsOf 8), .tup [x, w]])) [rowO ns b3 c3 d3] := t4
      have k2 : ∀ e0 e1 e3 e4 e5 e6 e7, fLc (iRng1' (fCons (fC (.int 10)) fNil)) (tName 8) bYes (fOp opEq (fVar 8) (fVar 2)) [8] [e0, e1, some (.d (.int 8)), e3, e4, e5, e6, e7, none] [rowO ns b3 c3 d3] = .ok (.d (.lst (kindsOf 8))) [rowO ns b3 c3 d3] := k2
      simp [bodyF, hp, t1, t2, t3, t4, k1, k2, g1, g2]
    · rw [if_neg h8] at g1 g2 t4
      have h8' : ¬ ((n : Int) = 8) := by omega
      have h9' : (n : Int) < 9 := by omega
      refine ⟨b3, c3, d3, some (.d x), some (.d w), some (.d (.tup [.lst (kindsOf n), x])), some (.d x), hb3, ?_⟩
      simp [bodyF, hp, t1, t2, t3, t4, k1, k2, g1, g2, h8', h9']
theorem loop_ok {ns : List Int} : ∀ (m n : Nat) (_ : n + m = 10) (b c d : Int) (_ : 0 ≤ b) (a2 a3 a4 a5 a6 a7 : Option Val), ∃ b' c' d' a2' a4' a5' a6' a7', forF (fun _ => True) (tName 2) bodyF ((List.range' n m).map fun (i : Nat) => D.int (i : Int)) (env9 ns a2 a3 a4 a5 a6 a7) [rowO ns b c d] = .nx (env9 ns a2' a3 a4' a5' a6' a7') [rowO ns b' c' d']
  | 0, n, h, b, c, d, hb, a2, a3, a4, a5, a6, a7 => ⟨b, c, d, a2, a4, a5, a6, a7, by simp [forF]⟩
  | m + 1, n, h, b, c, d, hb, a2, a3, a4, a5, a6, a7 => by
    obtain ⟨b1, c1, d1, x4, x5, x6, x7, hb1, e⟩ := iter_ok (ns := ns) (c := c) (d := d) hb n (by omega) a3 a4 a5 a6 a7
    obtain ⟨b2, c2, d2, y2, y4, y5, y6, y7, e2⟩ := loop_ok (ns := ns) m (n + 1) (by omega) b1 c1 d1 hb1 (some (.d (.int n))) a3 x4 x5 x6 x7
    refine ⟨b2, c2, d2, y2, y4, y5, y6, y7, ?_⟩
    rw [List.range'_succ, List.map_cons, forF]
    simp only [if_true]
    show (match bodyF (env9 ns (some (.d (.int n))) a3 a4 a5 a6 a7) [rowO ns b c d] with
      | .nx e' M' => _
      | .ct e' M' => _
      | .bk e' M' => _
      | o => o) = _
    rw [e]
    exact e2
abbrev due : List D := [.int 1, .str "a", .int 4, .int 5, .int 6, .int 7, .int 8, .int 9, .int 11, .str "s"]
theorem law_ok (ns : List Int) : ∃ M, p_law [.d (.scr ns)] [] = .ok (.d (.bl true)) M := by
  obtain ⟨b, c, d, a2, a4, a5, a6, a7, e⟩ := loop_ok (ns := ns) 10 0 rfl 0 53 0 (by decide) none none none none none none
  have al : p__law_alike 3 [.d (.lst due), .d (.lst due)] [rowO ns b c d] = .ok (.d (.bl true)) [rowO ns b c d] := alikeG_l (alikeLC_l (φ := p__law_alike 2) (by decide) fun x hx => by
    simp only [List.mem_cons, List.not_mem_nil, or_false] at hx
    rcases hx with rfl | rfl | rfl | rfl | rfl | rfl | rfl | rfl | rfl | rfl <;> first | exact alike_i _ | exact alike_s _ (by kernel_rfl))
  refine ⟨[], (x_call rfl (v := .d (.bl true)) (M' := [] ++ [rowO ns b c d]) ?_).trans (x_finishD _ rfl fun k o z => by cases z)⟩
  have hf : ∀ F : SF, sSeq (sFor (iRng1' (fCons (fC (.int 10)) fNil)) (tName 2) bodyF) F (env9 ns none none none none none none) [rowO ns 0 53 0] = F (env9 ns a2 none a4 a5 a6 a7) [rowO ns b c d] := fun F => by
    show (match forF (fun _ => True) (tName 2) bodyF ((List.range' 0 10).map fun (i : Nat) => D.int (i : Int)) (env9 ns none none none none none none) [rowO ns 0 53 0] with
      | .nx e' M' => F e' M'
      | o => o) = _
    rw [e]
  have h1 : b_law (env0 9 [.d (.scr ns)]) [] = sSeq (sSet 3 (fLst (fCons (fC (.int 1)) (fCons (fC (.str "a")) (fCons (fC (.int 4)) (fCons (fC (.int 5)) (fCons (fC (.int 6)) fNil)))))))
      (sSeq (sSet 3 (fOp opAdd (fVar 3) (fLst (fCons (fC (.int 7)) (fCons (fC (.int 8)) (fCons (fC (.int 9)) (fCons (fSnd (fC (.str "r")) (fC (.int 11))) (fCons (fSnd (fC (.int 1)) (fC (.str "s"))) fNil))))))))
      (sRet (fCall (p__law_alike 3) (fCons (fVar 3) (fCons (fLst (fCons (fC (.int 1)) (fCons (fC (.str "a")) (fCons (fC (.int 4)) (fCons (fC (.int 5)) (fCons (fC (.int 6)) (fCons (fC (.int 7)) (fCons (fC (.int 8)) (fCons (fC (.int 9)) (fCons (fC (.int 11)) (fCons (fC (.str "s")) fNil))))))))))) fNil))))) (env9 ns a2 none a4 a5 a6 a7) [rowO ns b c d] := hf _
  rw [h1]
  simp [fSnd, opAdd, plL, al]
end Wk09
set_option Elab.async false
set_option linter.all false
set_option maxRecDepth 100000
set_option maxHeartbeats 0
/-! The law k09_errors: the end. -/
namespace Wk09
open PySem PySem.Spec PyProof.Rows L2 Vl Vx
theorem lawFd {K : PySem.W.Frag} {mg : Str → Option Value} {base : Heap} (z : Ax K mg base) {fa : Addr} (hfa : mg ("law" : Str) = some (.ref fa)) : ∃ fd : FuncData, (∀ (s : Shared) (u : Value), BindsTo s fd ⟨[u], []⟩ [("script", u)]) ∧
    ∀ (w : World) (base : Heap), K.In base → base.Ns mainGlobals mg → FnV PySem.Challenge.pw_hammerkept_k09_errors w K mg base 5 fa fd ["script"] p_law := by
  obtain ⟨fd, D⟩ := z.c.d.def_ 4 rfl
  have e := hfa.symm.trans (g_law z)
  cases e
  have b := FunD.bindsA (ps := ["script"]) D fun _ _ _ _ _ _ us hl => match us, hl with | [_], _ => rfl
  exact ⟨fd, fun s u => b s [u] rfl, fun w base X G => fnV_D D sc_law (d_law ⟨z.c, X, G⟩)⟩
end Wk09
open PySem PySem.W PySem.Calls PyProof.Rows
theorem PySem.Challenge.cw_hammerkept_k09_errors_holds : PySem.Challenge.rw_hammerkept_k09_errors.Holds := by
  w_on; o_law
  refine HandSHeadRun.head_any (r := OpenLaw.row PySem.Challenge.rw_hammerkept_k09_errors) (q := view (OpenLaw.row PySem.Challenge.rw_hammerkept_k09_errors).prog [17]) (H := Wk09.hk) (ob := Wk09.ob) (M := 3000) (loose := Wk09.loose) (d := HandSHeadRun.topDef (OpenLaw.row PySem.Challenge.rw_hammerkept_k09_errors).prog 17) (kwd := []) Wk09.ob_eq
    (by kernel_rfl) (fun s => by kernel_rfl) Wk09.run (by kernel_rfl) (by kernel_rfl) (by kernel_rfl) (by rfl) (by first | assumption | decide +kernel) (by decide +kernel) ⟨rfl, rfl, rfl, rfl, rfl, by decide +kernel⟩ ?hw ?hc
  case hw => w_witness2
  case hc =>
    refine Vl.end_walk (l := PySem.Challenge.rw_hammerkept_k09_errors) (n := 63) (k := 5) (x := "script") rfl (by decide) (by kernel_rfl) ⟨rfl, by decide, by decide⟩ ?F
    intro w mg fa h Y G hmg0
    obtain ⟨K, KX, c⟩ := Y
    have hmg : mg ("law" : PySem.Str) = some (.ref fa) := by
      have e : (HandSHeadRun.topDef (OpenLaw.row PySem.Challenge.rw_hammerkept_k09_errors).prog 17).name = ("law" : PySem.Str) := by kernel_rfl
      rw [← e]
      exact hmg0
    obtain ⟨fd, hb, hF⟩ := Wk09.lawFd ⟨c, KX, G⟩ hmg
    exact ⟨K, fd, Wk09.p_law, KX, hb, fun ns _ => Wk09.law_ok ns, hF w⟩
