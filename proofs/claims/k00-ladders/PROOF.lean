import PyProof.Rows.All
import Wide.All
import OpenK.AllK
import Wide.FinOn
import HandS.ForMost
import HandS.Exc
import HandS.TryOnly
import HandS.TryMany
import HandS.ExcOwn
import HandS.WordsExc
import HandS.ExcInit
import HandS.ExcField
import HandS.ExcIs
import HandS.ExcCtx
import HandS.IsInst
import HandS.Flow
import HandS.Style
import HandS.TupAny
import HandS.TupLe
import HandS.Conv
import HandS.Deep
import HandS.Walk
import HandS.Zip
import HandS.Wide
import HandS.SortOrd
import HandS.SortKw
import HandS.SortInts
import HandS.OwnEq
import HandS.DictComp
import HandS.ListItems
import HandS.FStr
import HandS.Small
import HandS.StrMore
import HandS.Defaults
import HandS.MakeKw
import HandS.RaiseMore
import HandS.Codes
import HandS.SuiteRaise
import HandS.Rev
import KE.GoesMore
import KE.GoesEnum
import KE.KExcSuper
import KE.KSuper
import HandS.CallLocal
import HandS.HeadHook2
import HandS.HeadEnd
import HandS.Head3
import PySem.Challenge.RW_hammerkept_k00_whole_ladders
set_option Elab.async false
set_option linter.all false
set_option maxRecDepth 100000
/-! Vl0: plain data D, values, the store, what stands for what (Rep), steps, what is wanted behind a value (Kont). -/
namespace Vl
open PySem PySem.Spec PyProof.Rows L2

/-- plain data, without addresses -/
inductive D where
  | non | bl (b : Bool) | int (i : Int) | str (x : Str) | scr (ns : List Int)
  | tup (l : List D) | lst (l : List D) | dct (l : List (Key × D)) | ins (C : Str) (fs : List (Str × D)) | glo (x : Str)
  deriving Inhabited
/-- an exception: its class, its fields -/
structure Exn where
  cls : Str
  fs : List (Str × D)
/-- a value: plain data, the k-th object of the store, or the exception that an except suite handles -/
inductive Val where
  | d (x : D) | obj (k : Nat) | exc (x : Exn)
  deriving Inhabited
/-- an object of the store -/
inductive MO where
  | lst (l : List D) | dct (l : List (Key × D)) | ins (C : Str) (fs : List (Str × Val)) | dead
abbrev Mem := List MO
/-- the module's names, the written part -/
structure Mg where
  m : Str → Option Value
  K : PySem.W.Frag
  hd : Option (Addr × Value × Option Addr)
/-- the exception that the context handles -/
def hdOf (X : Cx) : Option (Addr × Value × Option Addr) := match X.A.handled with
  | some (.ref a) => (X.pn.lookup a).map fun o => (a, o.cls, o.dict)
  | _ => none
abbrev gm (X : Cx) : Mg := ⟨X.mg, X.K, hdOf X⟩
theorem hdOf_none {X : Cx} (h : X.A.handled = none) : hdOf X = none := by
  unfold hdOf
  rw [h]
abbrev En := List (Option Val)
inductive R (α : Type) where
  | ok (a : α) (M : Mem) | err (x : Exn) (M : Mem) | bad
abbrev EF := En → Mem → R Val

def Live (M : Mem) (k : Nat) : Prop := ∃ o, M[k]? = some o ∧ o ≠ .dead
/-- where the store's objects stand, and what is hidden: lists that are being made -/
structure Rho where
  r : Nat → Addr
  z : Addr → Prop
instance : CoeFun Rho (fun _ => Nat → Addr) := ⟨Rho.r⟩
/-- the addresses that no data may stand at -/
def SM (ρ : Rho) (M : Mem) : Addr → Prop := fun a => ρ.z a ∨ ∃ k, Live M k ∧ ρ k = a

section
variable (mg : Mg) (S : Addr → Prop) (H : Hp)
mutual
def Rep (v : V) : D → Prop
  | .non => v = .non
  | .bl b => v = .bl b
  | .int i => v = .int i
  | .str x => v = .str x
  | .tup ds => ∃ a us, v = .ref a ∧ Rd H a (.tup us) ∧ ¬ S a ∧ RepL us ds
  | .scr ns => ∃ a, v = .ref a ∧ ((Rd H a (.lst (ns.map V.int)) ∧ ¬ S a) ∨ ∀ H, SqL mg.K H a (ns.map V.int))
  | .lst ds => ∃ a us, v = .ref a ∧ H a = some (.lst us) ∧ ¬ S a ∧ RepL us ds
  | .dct ps => ∃ a kvs, v = .ref a ∧ Rd H a (.dK kvs) ∧ ¬ S a ∧ RepP kvs ps
  | .ins C gs => ∃ a Ca dx fs, v = .ref a ∧ H a = some (.ins Ca dx fs) ∧ ¬ S a ∧ mg.m C = some (.ref Ca) ∧ RepF fs gs
  | .glo x => ∃ u, mg.m x = some u ∧ RelV v u
def RepL (us : List V) : List D → Prop
  | [] => us = []
  | d :: ds => ∃ u r, us = u :: r ∧ Rep u d ∧ RepL r ds
def RepP (us : List (Key × V)) : List (Key × D) → Prop
  | [] => us = []
  | (k, d) :: ds => ∃ u r, us = (k, u) :: r ∧ Rep u d ∧ RepP r ds
def RepF (us : List (Str × V)) : List (Str × D) → Prop
  | [] => us = []
  | (k, d) :: ds => ∃ u r, us = (k, u) :: r ∧ Rep u d ∧ RepF r ds
end
end

theorem rd_keep {S S' : Addr → Prop} {H H' : Hp} {a : Addr} {u : HO} (k : ∀ a o, H a = some o → ¬ S a → H' a = some o ∧ ¬ S' a) (h : Rd H a u) (n : ¬ S a) : Rd H' a u ∧ ¬ S' a := by
  rcases h with h | ⟨o, h⟩
  · exact ⟨.inl (k a _ h n).1, (k a _ h n).2⟩
  · exact ⟨.inr ⟨o, (k a _ h n).1⟩, (k a _ h n).2⟩

section
variable {mg : Mg} {S S' : Addr → Prop} {H H' : Hp} (k : ∀ a o, H a = some o → ¬ S a → H' a = some o ∧ ¬ S' a)
include k
mutual
theorem Rep.mono {v : V} : ∀ {d : D}, Rep mg S H v d → Rep mg S' H' v d
  | .non, h => h
  | .bl _, h => h
  | .int _, h => h
  | .str _, h => h
  | .tup ds, h => by
    obtain ⟨a, us, e, r, n, q⟩ := h
    exact ⟨a, us, e, (rd_keep k r n).1, (rd_keep k r n).2, RepL.mono q⟩
  | .scr ns, h => by
    obtain ⟨a, e, ⟨r, n⟩ | r⟩ := h
    · exact ⟨a, e, .inl (rd_keep k r n)⟩
    · exact ⟨a, e, .inr r⟩
  | .lst ds, h => by
    obtain ⟨a, us, e, r, n, q⟩ := h
    exact ⟨a, us, e, (k a _ r n).1, (k a _ r n).2, RepL.mono q⟩
  | .dct ds, h => by
    obtain ⟨a, us, e, r, n, q⟩ := h
    exact ⟨a, us, e, (rd_keep k r n).1, (rd_keep k r n).2, RepP.mono q⟩
  | .ins C gs, h => by
    obtain ⟨a, Ca, dx, fs, e, r, n, m, q⟩ := h
    exact ⟨a, Ca, dx, fs, e, (k a _ r n).1, (k a _ r n).2, m, RepF.mono q⟩
  | .glo x, h => h
theorem RepL.mono {us : List V} : ∀ {ds : List D}, RepL mg S H us ds → RepL mg S' H' us ds
  | [], h => h
  | d :: ds, h => by
    obtain ⟨u, r, e, h1, h2⟩ := h
    exact ⟨u, r, e, Rep.mono h1, RepL.mono h2⟩
theorem RepP.mono {us : List (Key × V)} : ∀ {ds : List (Key × D)}, RepP mg S H us ds → RepP mg S' H' us ds
  | [], h => h
  | (_, d) :: ds, h => by
    obtain ⟨u, r, e, h1, h2⟩ := h
    exact ⟨u, r, e, Rep.mono h1, RepP.mono h2⟩
theorem RepF.mono {us : List (Str × V)} : ∀ {ds : List (Str × D)}, RepF mg S H us ds → RepF mg S' H' us ds
  | [], h => h
  | (_, d) :: ds, h => by
    obtain ⟨u, r, e, h1, h2⟩ := h
    exact ⟨u, r, e, Rep.mono h1, RepF.mono h2⟩
end
end

section
variable (mg : Mg) (ρ : Rho) (M : Mem) (H : Hp)
def RepX (cls : Value) (dd : Option Addr) (x : Exn) : Prop := ∃ C, mg.m x.cls = some (.ref C) ∧ cls = .ref C ∧
  ((x.fs = [] ∧ dd = none) ∨ ∃ d fs, dd = some d ∧ H d = some (.xd fs) ∧ ¬ SM ρ M d ∧ RepF mg (SM ρ M) H fs x.fs)
/-- a value at the store -/
def RepV (u : V) : Val → Prop
  | .d x => Rep mg (SM ρ M) H u x
  | .obj k => u = .ref (ρ k) ∧ k < M.length
  | .exc x => ∃ a cls dd, mg.hd = some (a, cls, dd) ∧ u = .ref a ∧ RepX mg ρ M H cls dd x
/-- .. that an object may bear -/
def RepW (u : V) : Val → Prop
  | .d x => Rep mg (SM ρ M) H u x
  | .obj k => u = .ref (ρ k) ∧ k < M.length
  | .exc _ => False
def RepVs (us : List V) : List Val → Prop
  | [] => us = []
  | d :: ds => ∃ u r, us = u :: r ∧ RepV mg ρ M H u d ∧ RepVs r ds
def RepFV (us : List (Str × V)) : List (Str × Val) → Prop
  | [] => us = []
  | (k, d) :: ds => ∃ u r, us = (k, u) :: r ∧ RepW mg ρ M H u d ∧ RepFV r ds
def RepO (a : Addr) : MO → Prop
  | .lst ds => ∃ us, H a = some (.lst us) ∧ RepL mg (SM ρ M) H us ds
  | .dct ps => ∃ us, H a = some (.dK us) ∧ RepP mg (SM ρ M) H us ps
  | .ins C gs => ∃ Ca dx fs, H a = some (.ins Ca dx fs) ∧ mg.m C = some (.ref Ca) ∧ RepFV mg ρ M H fs gs
  | .dead => True
structure Gs : Prop where
  at_ : ∀ k o, M[k]? = some o → RepO mg ρ M H (ρ k) o
  inj : ∀ j k, Live M j → Live M k → ρ j = ρ k → j = k
  zin : ∀ a, ρ.z a → ∃ o, H a = some o
  zlv : ∀ k, Live M k → ¬ ρ.z (ρ k)
end
/-- what data and places lean on -/
structure Stw (ρ : Rho) (M : Mem) (H : Hp) (ρ' : Rho) (M' : Mem) (H' : Hp) : Prop where
  len : M.length ≤ M'.length
  rho : ∀ k, k < M.length → ρ' k = ρ k
  keep : ∀ a o, H a = some o → ¬ SM ρ M a → H' a = some o ∧ ¬ SM ρ' M' a
/-- a step -/
structure Stp (ρ : Rho) (M : Mem) (H : Hp) (ρ' : Rho) (M' : Mem) (H' : Hp) : Prop extends Stw ρ M H ρ' M' H' where
  zeq : ρ'.z = ρ.z
  zk : ∀ a o, ρ.z a → H a = some o → H' a = some o

section
variable {mg : Mg} {ρ ρ' ρ'' : Rho} {M M' M'' : Mem} {H H' H'' : Hp} {u : V} {v : Val}
theorem Stp.refl : Stp ρ M H ρ M H := ⟨⟨Nat.le_refl _, fun _ _ => rfl, fun _ _ h n => ⟨h, n⟩⟩, rfl, fun _ _ _ h => h⟩
theorem Stw.trans (a : Stw ρ M H ρ' M' H') (b : Stw ρ' M' H' ρ'' M'' H'') : Stw ρ M H ρ'' M'' H'' :=
  ⟨Nat.le_trans a.len b.len, fun k hk => (b.rho k (Nat.lt_of_lt_of_le hk a.len)).trans (a.rho k hk), fun x o h n => b.keep x o (a.keep x o h n).1 (a.keep x o h n).2⟩
theorem Stp.trans (a : Stp ρ M H ρ' M' H') (b : Stp ρ' M' H' ρ'' M'' H'') : Stp ρ M H ρ'' M'' H'' :=
  ⟨a.toStw.trans b.toStw, b.zeq.trans a.zeq, fun x o h e => b.zk x o (by rw [a.zeq]; exact h) (a.zk x o h e)⟩
theorem RepX.stw {cls : Value} {dd : Option Addr} {x : Exn} (s : Stw ρ M H ρ' M' H') (h : RepX mg ρ M H cls dd x) : RepX mg ρ' M' H' cls dd x := by
  obtain ⟨C, e1, e2, h⟩ := h
  exact ⟨C, e1, e2, h.imp id fun ⟨d, fs, a, b, c, e⟩ => ⟨d, fs, a, (s.keep d _ b c).1, (s.keep d _ b c).2, RepF.mono s.keep e⟩⟩
theorem RepV.stw (s : Stw ρ M H ρ' M' H') (h : RepV mg ρ M H u v) : RepV mg ρ' M' H' u v := by
  cases v with
  | d x => exact Rep.mono s.keep h
  | obj k => exact ⟨by rw [s.rho k h.2]; exact h.1, Nat.lt_of_lt_of_le h.2 s.len⟩
  | exc x =>
    obtain ⟨a, cls, dd, e1, e2, h⟩ := h
    exact ⟨a, cls, dd, e1, e2, h.stw s⟩
theorem RepW.stw (s : Stw ρ M H ρ' M' H') (h : RepW mg ρ M H u v) : RepW mg ρ' M' H' u v := by
  cases v with
  | d x => exact Rep.mono s.keep h
  | obj k => exact ⟨by rw [s.rho k h.2]; exact h.1, Nat.lt_of_lt_of_le h.2 s.len⟩
  | exc x => exact h
theorem RepW.toV (h : RepW mg ρ M H u v) : RepV mg ρ M H u v := by
  cases v with
  | d x => exact h
  | obj k => exact h
  | exc x => exact h.elim
def noX : Val → Bool
  | .exc _ => false
  | _ => true
theorem RepV.toW (h : RepV mg ρ M H u v) (n : noX v = true) : RepW mg ρ M H u v := by
  cases v with
  | d x => exact h
  | obj k => exact h
  | exc x => cases n
theorem RepV.step (s : Stp ρ M H ρ' M' H') (h : RepV mg ρ M H u v) : RepV mg ρ' M' H' u v := h.stw s.toStw
theorem RepVs.step (s : Stp ρ M H ρ' M' H') : ∀ {vs : List Val} {us : List V}, RepVs mg ρ M H us vs → RepVs mg ρ' M' H' us vs
  | [], _, h => h
  | v :: vs, _, h => by
    obtain ⟨u, r, e, h1, h2⟩ := h
    exact ⟨u, r, e, h1.step s, RepVs.step s h2⟩
theorem RepFV.step (s : Stp ρ M H ρ' M' H') : ∀ {vs : List (Str × Val)} {us : List (Str × V)}, RepFV mg ρ M H us vs → RepFV mg ρ' M' H' us vs
  | [], _, h => h
  | (_, v) :: vs, _, h => by
    obtain ⟨u, r, e, h1, h2⟩ := h
    exact ⟨u, r, e, h1.stw s.toStw, RepFV.step s h2⟩
theorem RepVs.length : ∀ {vs : List Val} {us : List V}, RepVs mg ρ M H us vs → us.length = vs.length
  | [], _, h => by cases h; rfl
  | v :: vs, _, h => by
    obtain ⟨u, r, rfl, h1, h2⟩ := h
    simp [RepVs.length h2]
theorem RepL.length {S : Addr → Prop} : ∀ {vs : List D} {us : List V}, RepL mg S H us vs → us.length = vs.length
  | [], _, h => by cases h; rfl
  | v :: vs, _, h => by
    obtain ⟨u, r, rfl, h1, h2⟩ := h
    simp [RepL.length h2]
end

/-- what is wanted behind a value: a step from the state that is known -/
def Kont (mg : Mg) (ρ : Rho) (M : Mem) (H : Hp) (r : R Val) (Q : VK) (E : XK) : Prop := match r with
  | .ok v M' => ∀ ρ' u H', Stp ρ M H ρ' M' H' → Gs mg ρ' M' H' → RepV mg ρ' M' H' u v → Q u H'
  | .err x M' => ∀ ρ' cls d H', Stp ρ M H ρ' M' H' → Gs mg ρ' M' H' → RepX mg ρ' M' H' cls d x → E cls d H'
  | .bad => False
def Konts (mg : Mg) (ρ : Rho) (M : Mem) (H : Hp) (r : R (List Val)) (Q : List V → Hp → Prop) (E : XK) : Prop := match r with
  | .ok v M' => ∀ ρ' u H', Stp ρ M H ρ' M' H' → Gs mg ρ' M' H' → RepVs mg ρ' M' H' u v → Q u H'
  | .err x M' => ∀ ρ' cls d H', Stp ρ M H ρ' M' H' → Gs mg ρ' M' H' → RepX mg ρ' M' H' cls d x → E cls d H'
  | .bad => False
/-- the slots and the store -/
structure Es (mg : Mg) (ρ : Rho) (env : En) (M : Mem) (σ : L2.St) (H : Hp) : Prop where
  gs : Gs mg ρ M H
  sl : ∀ (i : Nat) (v : Val), env[i]? = some (some v) → ∃ u, σ[i]? = some (some u) ∧ RepV mg ρ M H u v
  len : env.length = σ.length
theorem Es.step {mg : Mg} {ρ ρ' : Rho} {env : En} {M M' : Mem} {σ : L2.St} {H H' : Hp} (e : Es mg ρ env M σ H) (s : Stp ρ M H ρ' M' H') (g : Gs mg ρ' M' H') : Es mg ρ' env M' σ H' :=
  ⟨g, fun i v h => let ⟨u, a, b⟩ := e.sl i v h; ⟨u, a, b.step s⟩, e.len⟩

/-- a reading by a function of the slots' data and the store -/
def lift (mg : Mg) (W : WX) (f : EF) : TE := fun σ H Q => ∃ ρ env M, Es mg ρ env M σ H ∧ Kont mg ρ M H (f env M) Q (fun c d H' => W c d σ H')
def lifts (mg : Mg) (W : WX) (f : En → Mem → R (List Val)) : TA := fun σ H Q => ∃ ρ env M, Es mg ρ env M σ H ∧ Konts mg ρ M H (f env M) Q (fun c d H' => W c d σ H')
/-- an expression computes f -/
def VE (X : Cx) (W : WX) (e : Expr) (f : EF) : Prop := PE X e (lift (gm X) W f)
def VA (X : Cx) (W : WX) (es : List Expr) (f : En → Mem → R (List Val)) : Prop := PA X es (lifts (gm X) W f)

theorem pe_imp {X : Cx} {e : Expr} {t t' : TE} (h : PE X e t) (k : ∀ σ H Q, t' σ H Q → t σ H Q) : PE X e t' := ⟨fun pins s σ H Q I q => h.run pins s σ H Q I (k σ H Q q)⟩
theorem pa_imp {X : Cx} {e : List Expr} {t t' : TA} (h : PA X e t) (k : ∀ σ H Q, t' σ H Q → t σ H Q) : PA X e t' := ⟨fun pos pins s σ H Q I q => h.run pos pins s σ H Q I (k σ H Q q)⟩
theorem pt_imp {X : Cx} {e : Expr} {t t' : TT} (h : PT X e t) (k : ∀ σ H Q, t' σ H Q → t σ H Q) : PT X e t' := ⟨fun pins s σ H Q I q => h.run pins s σ H Q I (k σ H Q q)⟩
theorem ps_imp {X : Cx} {e : Stmt} {t t' : TS} (h : PS X e t) (k : ∀ D σ H, t' D σ H → t D σ H) : PS X e t' := ⟨fun pins s σ H D I q => h.run pins s σ H D I (k D σ H q)⟩
theorem pss_imp {X : Cx} {e : List Stmt} {t t' : TS} (h : PSs X e t) (k : ∀ D σ H, t' D σ H → t D σ H) : PSs X e t' := ⟨fun pins s σ H D I q => h.run pins s σ H D I (k D σ H q)⟩

/-- behind a step: what is wanted from the earlier state -/
theorem Kont.from {mg : Mg} {ρ ρ' : Rho} {M M' : Mem} {H H' : Hp} {r : R Val} {Q : VK} {E : XK} (s : Stp ρ M H ρ' M' H') (h : Kont mg ρ M H r Q E) : Kont mg ρ' M' H' r Q E := by
  cases r with
  | ok v M2 => exact fun ρ2 u H2 s2 g r => h ρ2 u H2 (s.trans s2) g r
  | err x M2 => exact fun ρ2 c d H2 s2 g r => h ρ2 c d H2 (s.trans s2) g r
  | bad => exact h
theorem Konts.from {mg : Mg} {ρ ρ' : Rho} {M M' : Mem} {H H' : Hp} {r : R (List Val)} {Q : List V → Hp → Prop} {E : XK} (s : Stp ρ M H ρ' M' H') (h : Konts mg ρ M H r Q E) : Konts mg ρ' M' H' r Q E := by
  cases r with
  | ok v M2 => exact fun ρ2 u H2 s2 g r => h ρ2 u H2 (s.trans s2) g r
  | err x M2 => exact fun ρ2 c d H2 s2 g r => h ρ2 c d H2 (s.trans s2) g r
  | bad => exact h
def rbind {α β : Type} (r : R α) (k : α → Mem → R β) : R β := match r with
  | .ok v M => k v M
  | .err x M => .err x M
  | .bad => .bad
@[simp] theorem rbind_ok {α β : Type} (a : α) (M : Mem) (k : α → Mem → R β) : rbind (.ok a M) k = k a M := rfl
@[simp] theorem rbind_err {α β : Type} (x : Exn) (M : Mem) (k : α → Mem → R β) : rbind (.err x M) k = .err x M := rfl
@[simp] theorem rbind_bad {α β : Type} (k : α → Mem → R β) : rbind (.bad) k = .bad := rfl
/-- a value, then what follows -/
theorem Kont.bind {mg : Mg} {ρ : Rho} {M : Mem} {H : Hp} {r : R Val} {k : Val → Mem → R Val} {Q : VK} {E : XK} (h : Kont mg ρ M H (rbind r k) Q E) :
    Kont mg ρ M H r (fun u H1 => ∃ ρ1 M1 v, Stp ρ M H ρ1 M1 H1 ∧ Gs mg ρ1 M1 H1 ∧ RepV mg ρ1 M1 H1 u v ∧ Kont mg ρ1 M1 H1 (k v M1) Q E) E := by
  cases r with
  | ok v M2 => exact fun ρ2 u H2 s2 g rv => ⟨ρ2, M2, v, s2, g, rv, h.from s2⟩
  | err x M2 => exact h
  | bad => exact h
theorem Konts.bind {mg : Mg} {ρ : Rho} {M : Mem} {H : Hp} {r : R (List Val)} {k : List Val → Mem → R Val} {Q : VK} {E : XK} (h : Kont mg ρ M H (rbind r k) Q E) :
    Konts mg ρ M H r (fun u H1 => ∃ ρ1 M1 v, Stp ρ M H ρ1 M1 H1 ∧ Gs mg ρ1 M1 H1 ∧ RepVs mg ρ1 M1 H1 u v ∧ Kont mg ρ1 M1 H1 (k v M1) Q E) E := by
  cases r with
  | ok v M2 => exact fun ρ2 u H2 s2 g rv => ⟨ρ2, M2, v, s2, g, rv, h.from s2⟩
  | err x M2 => exact h
  | bad => exact h
/-- room for texts, not for calls -/
structure Rm (k : Nat) (A : Around) : Prop where
  un : A.units + 16 * k + 200 < cLine
theorem Rm.of {k : Nat} {A : Around} (r : Room k A) : Rm k A := ⟨r.un⟩
theorem Rm.units {k : Nat} {A : Around} (r : Rm k A) : A.units + 64 < cLine := by have := r.un; omega
theorem Rm.units0 {k : Nat} {A : Around} (r : Rm k A) : A.units < cLine := by have := r.un; omega
end Vl
set_option Elab.async false
set_option linter.all false
set_option maxRecDepth 100000
/-! Vl1: the store's steps; names, constants, displays, operators. -/
namespace Vl
open PySem PySem.Spec PyProof.Rows L2

section
variable {mg : Mg} {ρ ρ' : Rho} {M M' : Mem} {H H' : Hp} {p : Addr} {o : MO} {ob : HO} {k : Nat}
theorem same_upd (h : H p = none) : Same H (upd H p ob) := fun b x e => by rw [upd_ne (ne_of_none e h)]; exact e
theorem RepO.same (s : Same H H') {a : Addr} (h : RepO mg ρ M H a o) : RepO mg ρ M H' a o := by
  have k : ∀ a o, H a = some o → ¬ SM ρ M a → H' a = some o ∧ ¬ SM ρ M a := fun a o e n => ⟨s a o e, n⟩
  cases o with
  | lst ds => obtain ⟨us, e, q⟩ := h; exact ⟨us, s _ _ e, RepL.mono k q⟩
  | dct ds => obtain ⟨us, e, q⟩ := h; exact ⟨us, s _ _ e, RepP.mono k q⟩
  | ins C gs => obtain ⟨Ca, dx, fs, e, m, q⟩ := h; exact ⟨Ca, dx, fs, s _ _ e, m, RepFV.step ⟨⟨Nat.le_refl _, fun _ _ => rfl, k⟩, rfl, fun a o _ e => s a o e⟩ q⟩
  | dead => trivial
theorem Gs.same (g : Gs mg ρ M H) (s : Same H H') : Gs mg ρ M H' ∧ Stp ρ M H ρ M H' :=
  ⟨⟨fun k o h => (g.at_ k o h).same s, g.inj, fun a h => let ⟨o, e⟩ := g.zin a h; ⟨o, s a o e⟩, g.zlv⟩, ⟨⟨Nat.le_refl _, fun _ _ => rfl, fun a o e n => ⟨s a o e, n⟩⟩, rfl, fun a o _ e => s a o e⟩⟩
theorem Gs.some_of (g : Gs mg ρ M H) (h : Live M k) : ∃ ob, H (ρ k) = some ob ∧ Mut (some ob) := by
  obtain ⟨o, e, n⟩ := h
  have q := g.at_ k o e
  cases o with
  | lst ds => obtain ⟨us, e, _⟩ := q; exact ⟨_, e, trivial⟩
  | dct ds => obtain ⟨us, e, _⟩ := q; exact ⟨_, e, trivial⟩
  | ins C gs => obtain ⟨Ca, dx, fs, e, _⟩ := q; exact ⟨_, e, trivial⟩
  | dead => exact absurd rfl n
theorem Gs.out (g : Gs mg ρ M H) (h : H p = none) : ¬ SM ρ M p := fun q => by
  rcases q with z | ⟨k, l, e⟩
  · obtain ⟨o, e⟩ := g.zin _ z
    rw [h] at e; cases e
  · obtain ⟨ob, q, _⟩ := g.some_of l
    rw [e, h] at q; cases q
/-- a new object that never changes -/
theorem Gs.alloc (g : Gs mg ρ M H) (h : H p = none) (ob : HO) : Stp ρ M H ρ M (upd H p ob) ∧ Gs mg ρ M (upd H p ob) ∧ ¬ SM ρ M p :=
  ⟨(g.same (same_upd h)).2, (g.same (same_upd h)).1, g.out h⟩
def rput (ρ : Rho) (n : Nat) (p : Addr) : Rho := ⟨fun k => if k = n then p else ρ k, ρ.z⟩
theorem rput_same {n : Nat} : rput ρ n p n = p := if_pos rfl
theorem rput_ne {n k : Nat} (h : k ≠ n) : rput ρ n p k = ρ k := if_neg h
theorem live_push {k : Nat} (h : Live (M ++ [o]) k) : (k < M.length ∧ Live M k) ∨ (k = M.length ∧ o ≠ .dead) := by
  obtain ⟨x, e, n⟩ := h
  by_cases hk : k < M.length
  · rw [List.getElem?_append_left hk] at e
    exact .inl ⟨hk, x, e, n⟩
  · rw [List.getElem?_append_right (by omega)] at e
    by_cases z : k = M.length
    · subst z
      simp at e
      subst e
      exact .inr ⟨rfl, n⟩
    · have : k - M.length ≠ 0 := by omega
      cases hd : k - M.length with
      | zero => omega
      | succ m => rw [hd] at e; simp at e
theorem push_keep (g : Gs mg ρ M H) (h : H p = none) (ob : HO) (o : MO) : ∀ a x, H a = some x → ¬ SM ρ M a → upd H p ob a = some x ∧ ¬ SM (rput ρ M.length p) (M ++ [o]) a := fun a x e n => by
  refine ⟨same_upd h a x e, fun zz => ?_⟩
  rcases zz with zz | ⟨k, l, q⟩
  · exact n (.inl zz)
  rcases live_push l with ⟨hk, l'⟩ | ⟨hk, _⟩
  · rw [rput_ne (by omega)] at q
    exact n (.inr ⟨k, l', q⟩)
  · rw [hk, rput_same] at q
    rw [q, e] at h; cases h
theorem push_step (g : Gs mg ρ M H) (h : H p = none) (ob : HO) (o : MO) : Stp ρ M H (rput ρ M.length p) (M ++ [o]) (upd H p ob) :=
  ⟨⟨by simp, fun k hk => rput_ne (by omega), push_keep g h ob o⟩, rfl, fun a x _ e => same_upd h a x e⟩
theorem RepO.step {ρ2 : Rho} {M2 : Mem} {H2 : Hp} (s : Stp ρ M H ρ2 M2 H2) {a : Addr} (he : ∀ x, H a = some x → H2 a = some x) (q : RepO mg ρ M H a o) : RepO mg ρ2 M2 H2 a o := by
  cases o with
  | lst ds => obtain ⟨us, e, q⟩ := q; exact ⟨us, he _ e, RepL.mono s.keep q⟩
  | dct ds => obtain ⟨us, e, q⟩ := q; exact ⟨us, he _ e, RepP.mono s.keep q⟩
  | ins C gs => obtain ⟨Ca, dx, fs, e, m, q⟩ := q; exact ⟨Ca, dx, fs, he _ e, m, RepFV.step s q⟩
  | dead => trivial
/-- a new object of the store -/
theorem Gs.push (g : Gs mg ρ M H) (h : H p = none) (hr : RepO mg (rput ρ M.length p) (M ++ [o]) (upd H p ob) p o) : Gs mg (rput ρ M.length p) (M ++ [o]) (upd H p ob) := by
  have st := push_step g h ob o
  refine ⟨fun k x e => ?_, fun j k lj lk q => ?_, fun a z => let ⟨x, e⟩ := g.zin a z; ⟨x, same_upd h a x e⟩, fun k l z => ?_⟩
  · by_cases hk : k < M.length
    · rw [List.getElem?_append_left hk] at e
      rw [rput_ne (by omega)]
      exact (g.at_ k x e).step st fun y z => same_upd h _ _ z
    · have hl : k < (M ++ [o]).length := (List.getElem?_eq_some_iff.mp e).1
      have z : k = M.length := by simp at hl; omega
      subst z
      have : x = o := by simpa using e.symm
      subst this
      rw [rput_same]; exact hr
  · rcases live_push lj with ⟨hj, lj'⟩ | ⟨hj, _⟩ <;> rcases live_push lk with ⟨hk, lk'⟩ | ⟨hk, _⟩
    · rw [rput_ne (by omega), rput_ne (by omega)] at q
      exact g.inj j k lj' lk' q
    · rw [rput_ne (by omega), hk, rput_same] at q
      obtain ⟨y, e, _⟩ := g.some_of lj'
      rw [q, h] at e; cases e
    · rw [rput_ne (k := k) (by omega), hj, rput_same] at q
      obtain ⟨y, e, _⟩ := g.some_of lk'
      rw [← q, h] at e; cases e
    · omega
  · rcases live_push l with ⟨hk, l'⟩ | ⟨hk, _⟩
    · rw [rput_ne (by omega)] at z
      exact g.zlv k l' z
    · rw [hk, rput_same] at z
      obtain ⟨x, e⟩ := g.zin _ z
      rw [h] at e; cases e
theorem live_set {k j : Nat} {o' : MO} (lk : Live M k) (h : Live (M.set k o') j) : Live M j := by
  obtain ⟨x, e, n⟩ := h
  by_cases z : k = j
  · rw [← z]; exact lk
  · rw [List.getElem?_set_ne z] at e
    exact ⟨x, e, n⟩
theorem write_step (g : Gs mg ρ M H) (lk : Live M k) (ob : HO) (o' : MO) : Stp ρ M H ρ (M.set k o') (upd H (ρ k) ob) := by
  refine ⟨⟨by simp, fun _ _ => rfl, fun a x e n => ⟨?_, fun zz => ?_⟩⟩, rfl, fun a x z e => ?_⟩
  · have : a ≠ ρ k := fun z => n (.inr ⟨k, lk, z.symm⟩)
    rw [upd_ne this]; exact e
  · rcases zz with zz | ⟨j, l, q⟩
    · exact n (.inl zz)
    · exact n (.inr ⟨j, live_set lk l, q⟩)
  · have : a ≠ ρ k := fun q => g.zlv k lk (by rw [← q]; exact z)
    rw [upd_ne this]; exact e
/-- an object of the store is changed -/
theorem Gs.write {o' : MO} (g : Gs mg ρ M H) (lk : Live M k) (hr : RepO mg ρ (M.set k o') (upd H (ρ k) ob) (ρ k) o') : Gs mg ρ (M.set k o') (upd H (ρ k) ob) := by
  have st := write_step g lk ob o'
  refine ⟨fun j x e => ?_, fun j i lj li q => g.inj j i (live_set lk lj) (live_set lk li) q, fun a z => ?_, fun j l z => g.zlv j (live_set lk l) z⟩
  rotate_left
  · obtain ⟨x, e⟩ := g.zin a z
    have : a ≠ ρ k := fun q => g.zlv k lk (by rw [← q]; exact z)
    exact ⟨x, by rw [upd_ne this]; exact e⟩
  by_cases z : k = j
  · subst z
    have hl : k < M.length := by
      obtain ⟨y, e', _⟩ := lk
      exact (List.getElem?_eq_some_iff.mp e').1
    rw [List.getElem?_set_self hl] at e
    cases e
    exact hr
  · rw [List.getElem?_set_ne z] at e
    by_cases hx : x = .dead
    · subst hx; trivial
    · refine (g.at_ j x e).step st fun y w => ?_
      have : ρ j ≠ ρ k := fun q => z (g.inj _ _ lk ⟨x, e, hx⟩ q.symm)
      rw [upd_ne this]; exact w
/-- an object of the store is given up: it never changes from here on -/
theorem kill_step (g : Gs mg ρ M H) (lk : Live M k) : Stp ρ M H ρ (M.set k .dead) H ∧ Gs mg ρ (M.set k .dead) H ∧ ¬ SM ρ (M.set k .dead) (ρ k) := by
  have hl : k < M.length := by
    obtain ⟨y, e', _⟩ := lk
    exact (List.getElem?_eq_some_iff.mp e').1
  have st : Stp ρ M H ρ (M.set k .dead) H := ⟨⟨by simp, fun _ _ => rfl, fun a x e n => ⟨e, fun zz => zz.elim (fun z => n (.inl z)) fun ⟨j, l, q⟩ => n (.inr ⟨j, live_set lk l, q⟩)⟩⟩, rfl, fun _ _ _ e => e⟩
  refine ⟨st, ⟨fun j x e => ?_, fun j i lj li q => g.inj j i (live_set lk lj) (live_set lk li) q, g.zin, fun j l z => g.zlv j (live_set lk l) z⟩, fun zz => zz.elim (fun z => g.zlv k lk z) fun ⟨j, l, q⟩ => ?_⟩
  · by_cases z : k = j
    · subst z
      rw [List.getElem?_set_self hl] at e
      cases e; trivial
    · rw [List.getElem?_set_ne z] at e
      exact (g.at_ j x e).step st fun _ w => w
  · have e := g.inj _ _ (live_set lk l) lk q
    subst e
    obtain ⟨x, e, n⟩ := l
    rw [List.getElem?_set_self hl] at e
    cases e; exact n rfl
end

theorem Kont.mono {mg : Mg} {ρ : Rho} {M : Mem} {H : Hp} {r : R Val} {Q Q' : VK} {E E' : XK} (h : Kont mg ρ M H r Q E) (k : ∀ u H, Q u H → Q' u H) (k' : ∀ c d H, E c d H → E' c d H) : Kont mg ρ M H r Q' E' := by
  cases r with
  | ok v M2 => exact fun ρ2 u H2 s2 g r => k _ _ (h ρ2 u H2 s2 g r)
  | err x M2 => exact fun ρ2 c d H2 s2 g r => k' _ _ _ (h ρ2 c d H2 s2 g r)
  | bad => exact h
theorem Konts.mono {mg : Mg} {ρ : Rho} {M : Mem} {H : Hp} {r : R (List Val)} {Q Q' : List V → Hp → Prop} {E E' : XK} (h : Konts mg ρ M H r Q E) (k : ∀ u H, Q u H → Q' u H) (k' : ∀ c d H, E c d H → E' c d H) : Konts mg ρ M H r Q' E' := by
  cases r with
  | ok v M2 => exact fun ρ2 u H2 s2 g r => k _ _ (h ρ2 u H2 s2 g r)
  | err x M2 => exact fun ρ2 c d H2 s2 g r => k' _ _ _ (h ρ2 c d H2 s2 g r)
  | bad => exact h
section
variable {X : Cx} {W : WX} {e a b : Expr} {es : List Expr} {f g : EF} {fs : En → Mem → R (List Val)} {pos : Pos}
/-- the value of e, then k: what lift says of both in a row -/
theorem lift_bind {k : En → Val → Mem → R Val} {mg : Mg} {σ : L2.St} {H : Hp} {Q : VK} {Q' : VK}
    (h : lift mg W (fun e M => rbind (f e M) (k e)) σ H Q)
    (hk : ∀ ρ env M H1 u v, Es mg ρ env M σ H1 → RepV mg ρ M H1 u v → Kont mg ρ M H1 (k env v M) Q (fun c d H' => W c d σ H') → Q' u H1) : lift mg W f σ H Q' := by
  obtain ⟨ρ, env, M, es, h⟩ := h
  exact ⟨ρ, env, M, es, h.bind.mono (fun u H1 ⟨ρ1, M1, v, s, g, r, q⟩ => hk ρ1 env M1 H1 u v (es.step s g) r q) fun _ _ _ z => z⟩
theorem lifts_bind {k : En → List Val → Mem → R Val} {mg : Mg} {σ : L2.St} {H : Hp} {Q : VK} {Q' : List V → Hp → Prop}
    (h : lift mg W (fun e M => rbind (fs e M) (k e)) σ H Q)
    (hk : ∀ ρ env M H1 u v, Es mg ρ env M σ H1 → RepVs mg ρ M H1 u v → Kont mg ρ M H1 (k env v M) Q (fun c d H' => W c d σ H') → Q' u H1) : lifts mg W fs σ H Q' := by
  obtain ⟨ρ, env, M, es, h⟩ := h
  exact ⟨ρ, env, M, es, (Konts.bind h).mono (fun u H1 ⟨ρ1, M1, v, s, g, r, q⟩ => hk ρ1 env M1 H1 u v (es.step s g) r q) fun _ _ _ z => z⟩

/-! ### names, constants -/
def fVar (i : Nat) : EF := fun e M => match e[i]? with
  | some (some v) => .ok v M
  | _ => .bad
def fC (v : D) : EF := fun _ M => .ok (.d v) M
theorem ve_var (i : Nat) {x : Str} {pos : Pos} (hN : X.N[i]? = some x := by rfl) (hv : Vis X.env.scope x := by first | exact Or.inl rfl | exact Or.inr (Or.inl rfl) | exact Or.inr (Or.inr rfl)) (hd : (x == ("__debug__" : Str)) = false := by decide)
    (hcd : (x == ("__classdict__" : Str)) = false := by decide) : VE X W (.Name x pos) (fVar i) := pe_imp (pe_var hN hv hd hcd) fun σ H Q h => by
  obtain ⟨ρ, env, M, es, h⟩ := h
  unfold fVar at h
  split at h
  · rename_i v e
    obtain ⟨u, e1, r⟩ := es.sl i v e
    exact ⟨u, e1, h ρ u H .refl es.gs r⟩
  · exact h.elim
theorem lift_C {mg : Mg} {v : V} {d : D} {σ : L2.St} {H : Hp} {Q : VK} (hr : ∀ S H, Rep mg S H v d) (h : lift mg W (fC d) σ H Q) : Q v H := by
  obtain ⟨ρ, env, M, es, h⟩ := h
  exact h ρ v H .refl es.gs (hr _ _)
theorem ve_int {i : Int} {j : Nat} {pos : Pos} : VE X W (.Constant (.int i) j pos) (fC (.int i)) := pe_imp pe_int fun σ H Q h => lift_C (d := .int i) (fun _ _ => rfl) h
theorem ve_bl {i : Bool} {j : Nat} {pos : Pos} : VE X W (.Constant (.bool i) j pos) (fC (.bl i)) := pe_imp pe_bl fun σ H Q h => lift_C (d := .bl i) (fun _ _ => rfl) h
theorem ve_non {j : Nat} {pos : Pos} : VE X W (.Constant .none j pos) (fC .non) := pe_imp pe_non fun σ H Q h => lift_C (d := .non) (fun _ _ => rfl) h
theorem ve_str {i : Str} {j : Nat} {pos : Pos} : VE X W (.Constant (.str i) j pos) (fC (.str i)) := pe_imp pe_str fun σ H Q h => lift_C (d := .str i) (fun _ _ => rfl) h
/-- a module's int or text -/
theorem ve_gint {x : Str} {i : Int} {u : Value} {pos : Pos} (hg : Gl X x) (hm : X.mg x = some u) (r : RelV (.int i) u) (hd : (x == ("__debug__" : Str)) = false := by decide) : VE X W (.Name x pos) (fC (.int i)) :=
  pe_imp (pe_glob hg hm r hd) fun σ H Q h => lift_C (d := .int i) (fun _ _ => rfl) h
theorem ve_gstr {x : Str} {i : Str} {u : Value} {pos : Pos} (hg : Gl X x) (hm : X.mg x = some u) (r : RelV (.str i) u) (hd : (x == ("__debug__" : Str)) = false := by decide) : VE X W (.Name x pos) (fC (.str i)) :=
  pe_imp (pe_glob hg hm r hd) fun σ H Q h => lift_C (d := .str i) (fun _ _ => rfl) h
/-- a def or a class of the module, as a value -/
theorem ve_glo {x : Str} {a : Addr} {pos : Pos} (hg : Gl X x) (hm : X.mg x = some (.ref a)) (hd : (x == ("__debug__" : Str)) = false := by decide) : VE X W (.Name x pos) (fC (.glo x)) :=
  pe_imp (pe_glob (v := .ref a) hg hm rfl hd) fun σ H Q h => by
    obtain ⟨ρ, env, M, es, h⟩ := h
    exact h ρ (.ref a) H .refl es.gs ⟨_, hm, rfl⟩

/-! ### several expressions -/
def fNil : En → Mem → R (List Val) := fun _ M => .ok [] M
def fCons (f : EF) (fs : En → Mem → R (List Val)) : En → Mem → R (List Val) := fun e M => rbind (f e M) fun v M1 => rbind (fs e M1) fun vs M2 => .ok (v :: vs) M2
theorem va_nil : VA X W [] fNil := pa_imp pa_nil fun σ H Q ⟨ρ, env, M, es, h⟩ => h ρ [] H .refl es.gs rfl
theorem va_cons (hf : VE X W e f) (hfs : VA X W es fs) (hs : starEach (e :: es) X.env = (false, eval e X.env) :: starEach es X.env := by rfl) : VA X W (e :: es) (fCons f fs) := pa_imp (pa_cons hf hfs hs) fun σ H Q h => by
  obtain ⟨ρ, env, M, es, h⟩ := h
  refine ⟨ρ, env, M, es, ?_⟩
  unfold fCons at h
  revert h
  cases hv : f env M with
  | bad => exact fun h => h
  | err x M1 => exact fun h => h
  | ok v M1 =>
    intro h ρ1 u H1 s1 g1 r1
    have h1 := Konts.from s1 h
    refine ⟨ρ1, env, M1, es.step s1 g1, ?_⟩
    simp only [rbind_ok] at h1
    revert h1
    cases hvs : fs env M1 with
    | bad => exact fun h => h
    | err x M1 => exact fun h => h
    | ok vs M2 => exact fun h1 ρ2 us H2 s2 g2 r2 => h1 ρ2 (u :: us) H2 s2 g2 ⟨u, us, rfl, r1.step s2, r2⟩

/-! ### displays -/
def dsOf : List Val → Option (List D)
  | [] => some []
  | .d x :: r => (dsOf r).map (x :: ·)
  | .obj _ :: _ => none
  | .exc _ :: _ => none
theorem repL_of {mg : Mg} {ρ : Rho} {M : Mem} {H : Hp} : ∀ {vs : List Val} {us : List V} {ds : List D}, RepVs mg ρ M H us vs → dsOf vs = some ds → RepL mg (SM ρ M) H us ds
  | [], _, _, h, e => by cases e; exact h
  | .obj _ :: _, _, _, _, e => by cases e
  | .exc _ :: _, _, _, _, e => by cases e
  | .d x :: r, _, _, h, e => by
    simp only [dsOf, Option.map_eq_some_iff] at e
    obtain ⟨ds, e, rfl⟩ := e
    obtain ⟨u, us, rfl, h1, h2⟩ := h
    exact ⟨u, us, rfl, h1, repL_of h2 e⟩
theorem dsOf_length : ∀ {vs : List Val} {ds : List D}, dsOf vs = some ds → ds.length = vs.length
  | [], _, e => by cases e; rfl
  | .obj _ :: _, _, e => by cases e
  | .exc _ :: _, _, e => by cases e
  | .d x :: r, _, e => by
    simp only [dsOf, Option.map_eq_some_iff] at e
    obtain ⟨ds, e, rfl⟩ := e
    simp [dsOf_length e]
/-- the greatest length of a list -/
abbrev big : Nat := 16777216
theorem big_le {n : Nat} (h : n ≤ big) : n ≤ sizeLine := by rw [sizeLine_eq]; exact h
theorem big_lt {n : Nat} (h : n < big) : n < sizeLine := by rw [sizeLine_eq]; exact h
def mkTup (vs : List Val) (M : Mem) : R Val := match dsOf vs with
  | some ds => if ds.length ≤ big then .ok (.d (.tup ds)) M else .bad
  | none => .bad
def mkLst (vs : List Val) (M : Mem) : R Val := match dsOf vs with
  | some ds => if ds.length ≤ big then .ok (.d (.lst ds)) M else .bad
  | none => .bad
/-- .. as an object of the store -/
def mkObj (vs : List Val) (M : Mem) : R Val := match dsOf vs with
  | some ds => if ds.length ≤ big then .ok (.obj M.length) (M ++ [.lst ds]) else .bad
  | none => .bad
def fTup (fs : En → Mem → R (List Val)) : EF := fun e M => rbind (fs e M) mkTup
def fLst (fs : En → Mem → R (List Val)) : EF := fun e M => rbind (fs e M) mkLst
def fObj (fs : En → Mem → R (List Val)) : EF := fun e M => rbind (fs e M) mkObj
section
variable {mg : Mg} {ρ : Rho} {M : Mem} {H : Hp} {us : List V} {ds : List D} {Q : VK} {E : XK}
theorem kont_tup (g : Gs mg ρ M H) (r : RepL mg (SM ρ M) H us ds) (q : Kont mg ρ M H (.ok (.d (.tup ds)) M) Q E) : ∀ p, H p = none → Q (.ref p) (upd H p (.tup us)) := fun p hp => by
  obtain ⟨s1, g1, n1⟩ := g.alloc hp (.tup us)
  exact q ρ _ _ s1 g1 ⟨p, us, rfl, .inl upd_same, n1, RepL.mono s1.keep r⟩
theorem kont_lst (g : Gs mg ρ M H) (r : RepL mg (SM ρ M) H us ds) (q : Kont mg ρ M H (.ok (.d (.lst ds)) M) Q E) : ∀ p, H p = none → Q (.ref p) (upd H p (.lst us)) := fun p hp => by
  obtain ⟨s1, g1, n1⟩ := g.alloc hp (.lst us)
  exact q ρ _ _ s1 g1 ⟨p, us, rfl, upd_same, n1, RepL.mono s1.keep r⟩
theorem kont_obj (g : Gs mg ρ M H) (r : RepL mg (SM ρ M) H us ds) (q : Kont mg ρ M H (.ok (.obj M.length) (M ++ [.lst ds])) Q E) : ∀ p, H p = none → Q (.ref p) (upd H p (.lst us)) := fun p hp => by
  have s1 := push_step g hp (.lst us) (.lst ds)
  exact q _ _ _ s1 (g.push hp ⟨us, upd_same, RepL.mono s1.keep r⟩) ⟨by rw [rput_same], by simp⟩
end
theorem ve_tup {k : Nat} (h : VA X W es fs) : VE X W (.Tuple es k pos) (fTup fs) := pe_imp (pe_tup h) fun σ H Q h => by
  refine lifts_bind h fun ρ env M H1 us vs es r q => ?_
  unfold mkTup at q
  split at q
  · rename_i ds e
    split at q
    · rename_i hl
      have rl := repL_of r e
      exact ⟨by rw [RepL.length rl]; exact big_le hl, kont_tup es.gs rl q⟩
    · exact q.elim
  · exact q.elim
theorem ve_lst (h : VA X W es fs) : VE X W (.List es pos) (fLst fs) := pe_imp (pe_lst h) fun σ H Q h => by
  refine lifts_bind h fun ρ env M H1 us vs es r q => ?_
  unfold mkLst at q
  split at q
  · rename_i ds e
    split at q
    · rename_i hl
      have rl := repL_of r e
      exact ⟨by rw [RepL.length rl]; exact big_le hl, kont_lst es.gs rl q⟩
    · exact q.elim
  · exact q.elim
theorem ve_obj (h : VA X W es fs) : VE X W (.List es pos) (fObj fs) := pe_imp (pe_lst h) fun σ H Q h => by
  refine lifts_bind h fun ρ env M H1 us vs es r q => ?_
  unfold mkObj at q
  split at q
  · rename_i ds e
    split at q
    · rename_i hl
      have rl := repL_of r e
      exact ⟨by rw [RepL.length rl]; exact big_le hl, kont_obj es.gs rl q⟩
    · exact q.elim
  · exact q.elim
end
end Vl
set_option Elab.async false
set_option linter.all false
set_option maxRecDepth 100000
/-! Vl2: operators, comparisons. -/
namespace Vl
open PySem PySem.Spec PyProof.Rows L2

/-! ### what a value is, as a sequence -/
/-- a plain list: its items -/
def plL (M : Mem) : Val → Option (List D)
  | .d (.lst l) => some l
  | .obj k => match M[k]? with
    | some (.lst l) => some l
    | _ => none
  | _ => none
/-- a list that is read -/
def rdL (M : Mem) : Val → Option (List D)
  | .d (.scr ns) => some (ns.map D.int)
  | v => plL M v
def rdT : Val → Option (List D)
  | .d (.tup l) => some l
  | _ => none
/-- a list or a tuple that is read -/
def rdS (M : Mem) (v : Val) : Option (List D) := match rdT v with
  | some l => some l
  | none => rdL M v
def rdD (M : Mem) : Val → Option (List (Key × D))
  | .d (.dct l) => some l
  | .obj k => match M[k]? with
    | some (.dct l) => some l
    | _ => none
  | _ => none
section
variable {mg : Mg} {ρ : Rho} {M : Mem} {H : Hp} {u : V} {v : Val} {ds : List D}
theorem repL_ints {S : Addr → Prop} : ∀ ns : List Int, RepL mg S H (ns.map V.int) (ns.map D.int)
  | [] => rfl
  | n :: ns => ⟨_, _, rfl, rfl, repL_ints ns⟩
theorem plL_rep (g : Gs mg ρ M H) (r : RepV mg ρ M H u v) (e : plL M v = some ds) : ∃ a us, u = .ref a ∧ H a = some (.lst us) ∧ RepL mg (SM ρ M) H us ds := by
  cases v with
  | d x =>
    cases x <;> try (cases e; done)
    cases e
    obtain ⟨a, us, e, h, _, q⟩ := r
    exact ⟨a, us, e, h, q⟩
  | obj k =>
    unfold plL at e
    dsimp only at e
    split at e
    · rename_i l el
      cases e
      obtain ⟨us, h, q⟩ := g.at_ k _ el
      exact ⟨_, us, r.1, h, q⟩
    · cases e
  | exc x => cases e
theorem rdL_rep (g : Gs mg ρ M H) (r : RepV mg ρ M H u v) (e : rdL M v = some ds) : ∃ a us, u = .ref a ∧ SqL mg.K H a us ∧ RepL mg (SM ρ M) H us ds := by
  unfold rdL at e
  split at e
  · rename_i ns
    cases e
    obtain ⟨a, e, h⟩ := r
    refine ⟨a, _, e, ?_, repL_ints ns⟩
    rcases h with ⟨h, _⟩ | h
    · exact .inl h
    · exact h H
  · obtain ⟨a, us, e, h, q⟩ := plL_rep g r e
    exact ⟨a, us, e, .inl (.inl h), q⟩
theorem rdT_rep (r : RepV mg ρ M H u v) (e : rdT v = some ds) : ∃ a us, u = .ref a ∧ SqT mg.K H a us ∧ RepL mg (SM ρ M) H us ds := by
  unfold rdT at e
  split at e
  · cases e
    obtain ⟨a, us, e, h, _, q⟩ := r
    exact ⟨a, us, e, .inl h, q⟩
  · cases e
theorem rdS_rep (g : Gs mg ρ M H) (r : RepV mg ρ M H u v) (e : rdS M v = some ds) : ∃ a us, u = .ref a ∧ (SqL mg.K H a us ∨ SqT mg.K H a us) ∧ RepL mg (SM ρ M) H us ds := by
  unfold rdS at e
  split at e
  · rename_i l el
    cases e
    obtain ⟨a, us, e, h, q⟩ := rdT_rep r el
    exact ⟨a, us, e, .inr h, q⟩
  · obtain ⟨a, us, e, h, q⟩ := rdL_rep g r e
    exact ⟨a, us, e, .inl h, q⟩
theorem rdD_rep {ps : List (Key × D)} (g : Gs mg ρ M H) (r : RepV mg ρ M H u v) (e : rdD M v = some ps) : ∃ a us, u = .ref a ∧ Rd H a (.dK us) ∧ RepP mg (SM ρ M) H us ps := by
  cases v with
  | d x =>
    cases x <;> try (cases e; done)
    cases e
    obtain ⟨a, us, e, h, _, q⟩ := r
    exact ⟨a, us, e, h, q⟩
  | obj k =>
    unfold rdD at e
    dsimp only at e
    split at e
    · rename_i l el
      cases e
      obtain ⟨us, h, q⟩ := g.at_ k _ el
      exact ⟨_, us, r.1, .inl h, q⟩
    · cases e
  | exc x => cases e
theorem RepL.append {S : Addr → Prop} : ∀ {xs ys : List D} {us ws : List V}, RepL mg S H us xs → RepL mg S H ws ys → RepL mg S H (us ++ ws) (xs ++ ys)
  | [], _, _, _, h, q => by cases h; exact q
  | x :: xs, _, _, _, h, q => by
    obtain ⟨u, r, rfl, h1, h2⟩ := h
    exact ⟨u, _, rfl, h1, RepL.append h2 q⟩
theorem RepL.get {S : Addr → Prop} : ∀ {xs : List D} {us : List V} {i : Nat} {x : D}, RepL mg S H us xs → xs[i]? = some x → ∃ u, us[i]? = some u ∧ Rep mg S H u x
  | [], _, _, _, _, e => by simp at e
  | x :: xs, _, 0, y, h, e => by
    obtain ⟨u, r, rfl, h1, h2⟩ := h
    simp at e; subst e
    exact ⟨u, rfl, h1⟩
  | x :: xs, _, i + 1, y, h, e => by
    obtain ⟨u, r, rfl, h1, h2⟩ := h
    obtain ⟨w, a, b⟩ := RepL.get (i := i) h2 (by simpa using e)
    exact ⟨w, by simpa using a, b⟩
theorem RepL.drop {S : Addr → Prop} : ∀ {xs : List D} {us : List V} (n : Nat), RepL mg S H us xs → RepL mg S H (us.drop n) (xs.drop n)
  | _, _, 0, h => h
  | [], _, _ + 1, h => by cases h; rfl
  | x :: xs, _, n + 1, h => by
    obtain ⟨u, r, rfl, h1, h2⟩ := h
    exact RepL.drop n h2
theorem RepL.take {S : Addr → Prop} : ∀ {xs : List D} {us : List V} (n : Nat), RepL mg S H us xs → RepL mg S H (us.take n) (xs.take n)
  | _, _, 0, h => by simp only [List.take_zero]; rfl
  | [], _, _ + 1, h => by cases h; rfl
  | x :: xs, _, n + 1, h => by
    obtain ⟨u, r, rfl, h1, h2⟩ := h
    exact ⟨u, _, rfl, h1, RepL.take n h2⟩
theorem RepL.reverse {S : Addr → Prop} : ∀ {xs : List D} {us : List V}, RepL mg S H us xs → RepL mg S H us.reverse xs.reverse
  | [], _, h => by cases h; rfl
  | x :: xs, _, h => by
    obtain ⟨u, r, rfl, h1, h2⟩ := h
    rw [List.reverse_cons, List.reverse_cons]
    exact RepL.append (RepL.reverse h2) ⟨u, [], rfl, h1, rfl⟩
theorem RepL.set {S : Addr → Prop} {w : V} {y : D} (hy : Rep mg S H w y) : ∀ {xs : List D} {us : List V} (n : Nat), RepL mg S H us xs → RepL mg S H (us.set n w) (xs.set n y)
  | [], _, _, h => by cases h; rfl
  | x :: xs, _, 0, h => by
    obtain ⟨u, r, rfl, h1, h2⟩ := h
    exact ⟨w, r, rfl, hy, h2⟩
  | x :: xs, _, n + 1, h => by
    obtain ⟨u, r, rfl, h1, h2⟩ := h
    exact ⟨u, _, rfl, h1, RepL.set hy n h2⟩
end

/-! ### two operands -/
def OpK (mg : Mg) (op : Val → Val → Mem → R Val) (r : R2) : Prop := ∀ (ρ : Rho) (M : Mem) (H : Hp) (x y : V) (v w : Val) (Q : VK) (E : XK),
  Gs mg ρ M H → RepV mg ρ M H x v → RepV mg ρ M H y w → Kont mg ρ M H (op v w M) Q E → r x y H Q
def fOp (op : Val → Val → Mem → R Val) (f g : EF) : EF := fun e M => rbind (f e M) fun v M1 => rbind (g e M1) fun w M2 => op v w M2
section
variable {X : Cx} {W : WX} {e a b : Expr} {es : List Expr} {f g : EF} {pos : Pos} {r : R2} {op : Val → Val → Mem → R Val}
theorem lift_op (k : OpK (gm X) op r) : ∀ σ H Q, lift (gm X) W (fOp op f g) σ H Q → tOp r (lift (gm X) W f) (lift (gm X) W g) σ H Q := fun σ H Q h => by
  refine lift_bind h fun ρ env M H1 u v es r q => ⟨ρ, env, M, es, (Kont.bind q).mono (fun u2 H2 hq => ?_) fun _ _ _ z => z⟩
  obtain ⟨ρ2, M2, w, s, g2, rw', q2⟩ := hq
  exact k ρ2 M2 H2 u u2 v w Q _ g2 (r.step s) rw' q2
theorem ve_op {o : Operator} (ho : OpR X (binaryOp o) r) (k : OpK (gm X) op r) (ha : VE X W a f) (hb : VE X W b g) : VE X W (.BinOp a o b pos) (fOp op f g) := pe_imp (pe_op ho ha hb) (lift_op k)
theorem ve_cmp {o : CmpOp} (ho : OpR X (compareOp o) r) (k : OpK (gm X) op r) (ha : VE X W a f) (hb : VE X W b g) (hm : behindInMarks o b = false) : VE X W (.Compare a [o] [b] pos) (fOp op f g) := pe_imp (pe_cmpR ho ha hb hm) (lift_op k)
theorem ve_ix {hs : PlainIx b} (ho : IxR X r) (k : OpK (gm X) op r) (ha : VE X W a f) (hb : VE X W b g) : VE X W (.Subscript a b pos) (fOp op f g) := pe_imp (pe_ix ho ha hb hs) (lift_op k)

/-! ### arithmetic -/
def opAdd (v w : Val) (M : Mem) : R Val := match v, w with
  | .d (.int i), .d (.int j) => .ok (.d (.int (i + j))) M
  | .d (.str x), .d (.str y) => if x.length + y.length ≤ big then .ok (.d (.str (x ++ y))) M else .bad
  | .d (.tup xs), .d (.tup ys) => if xs.length + ys.length ≤ big then .ok (.d (.tup (xs ++ ys))) M else .bad
  | v, w => match plL M v, plL M w with
    | some xs, some ys => if xs.length + ys.length ≤ big then .ok (.d (.lst (xs ++ ys))) M else .bad
    | _, _ => .bad
abbrev rAddAll (X : Cx) : R2 := fun x y H Q => (rI0 fun i j => .int (i + j)) x y H Q ∨ (fun x y H Q => (∃ i j, x = .str i ∧ y = .str j ∧ i.length + j.length ≤ sizeLine ∧ Q (.str (i ++ j)) H) ∨
  (fun x y H Q => rCatA X.K x y H Q ∨ rCat x y H Q) x y H Q) x y H Q
theorem op_addAll : OpR X (binaryOp .Add) (rAddAll X) := OpR.or op_add (OpR.or op_add_str (OpR.or op_catA op_cat))
theorem k_add : OpK (gm X) opAdd (rAddAll X) := fun ρ M H x y v w Q E g rx ry q => by
  unfold opAdd at q
  split at q
  · exact .inl ⟨_, _, rx, ry, q ρ _ H .refl g rfl⟩
  · split at q
    · rename_i i j hl
      exact .inr (.inl ⟨i, j, rx, ry, big_le hl, q ρ _ H .refl g rfl⟩)
    · exact q.elim
  · split at q
    · rename_i xs ys hl
      refine .inr (.inr (.inl ?_))
      obtain ⟨p1, us, e1, h1, n1, l1⟩ := id rx
      obtain ⟨p2, ws, e2, h2, n2, l2⟩ := id ry
      have e3 := RepL.length l1
      have e4 := RepL.length l2
      refine ⟨p1, p2, us, ws, e1, e2, .inl h1, .inl h2, by rw [e3, e4]; exact big_le hl, fun z => ?_, fun _ z => ?_, fun _ _ => ?_⟩
      · subst z
        cases xs with
        | nil => rw [← e2]; exact q ρ _ H .refl g ry
        | cons _ _ => simp at e3
      · subst z
        cases ys with
        | nil => rw [← e1]; exact q ρ _ H .refl g (by rw [List.append_nil]; exact rx)
        | cons _ _ => simp at e4
      · exact kont_tup g (RepL.append l1 l2) q
    · exact q.elim
  · split at q
    · rename_i xs ys ex ey
      split at q
      · rename_i hl
        obtain ⟨p1, us, e1, h1, l1⟩ := plL_rep g rx ex
        obtain ⟨p2, ws, e2, h2, l2⟩ := plL_rep g ry ey
        exact .inr (.inr (.inr ⟨p1, p2, us, ws, e1, e2, h1, h2, by rw [RepL.length l1, RepL.length l2]; exact big_le hl, kont_lst g (RepL.append l1 l2) q⟩))
      · exact q.elim
    · exact q.elim
theorem ve_add (ha : VE X W a f) (hb : VE X W b g) : VE X W (.BinOp a .Add b pos) (fOp opAdd f g) := ve_op op_addAll k_add ha hb
def opI (C : Int → Int → Prop) [∀ i j, Decidable (C i j)] (h : Int → Int → Int) (v w : Val) (M : Mem) : R Val := match v, w with
  | .d (.int i), .d (.int j) => if C i j then .ok (.d (.int (h i j))) M else .bad
  | _, _ => .bad
theorem k_opI {C : Int → Int → Prop} [∀ i j, Decidable (C i j)] {h : Int → Int → Int} : OpK (gm X) (opI C h) (rI C fun i j => .int (h i j)) := fun ρ M H x y v w Q E g rx ry q => by
  unfold opI at q
  split at q
  · split at q
    · rename_i c
      exact ⟨_, _, rx, ry, c, q ρ _ H .refl g rfl⟩
    · exact q.elim
  · exact q.elim
abbrev cTrue (_ _ : Int) : Prop := True
abbrev opSub := opI cTrue fun i j => i - j
instance : ∀ i j, Decidable (CMul i j) := fun i j => by unfold CMul; exact inferInstance
instance : ∀ i j, Decidable (CDiv i j) := fun i j => by unfold CDiv; exact inferInstance
instance : ∀ i j, Decidable (CPow i j) := fun i j => by unfold CPow; exact inferInstance
abbrev opFdiv := opI CDiv fun i j => i / j
abbrev opMod := opI (fun _ j => 0 < j) fun i j => i % j
abbrev opPow := opI CPow fun i j => i ^ j.toNat
theorem ve_sub (ha : VE X W a f) (hb : VE X W b g) : VE X W (.BinOp a .Sub b pos) (fOp opSub f g) := ve_op op_sub (fun ρ M H x y v w Q E g rx ry q => by
  obtain ⟨i, j, e1, e2, _, q⟩ := k_opI (X := X) ρ M H x y v w Q E g rx ry q
  exact ⟨i, j, e1, e2, q⟩) ha hb
theorem ve_fdiv (ha : VE X W a f) (hb : VE X W b g) : VE X W (.BinOp a .FloorDiv b pos) (fOp opFdiv f g) := ve_op op_fdiv k_opI ha hb
theorem ve_mod (ha : VE X W a f) (hb : VE X W b g) : VE X W (.BinOp a .Mod b pos) (fOp opMod f g) := ve_op op_mod k_opI ha hb
theorem ve_pow (ha : VE X W a f) (hb : VE X W b g) : VE X W (.BinOp a .Pow b pos) (fOp opPow f g) := ve_op op_pow k_opI ha hb
/-- ints; a list n times -/
def opMul (v w : Val) (M : Mem) : R Val := match v, w with
  | .d (.int i), .d (.int j) => if CMul i j then .ok (.d (.int (i * j))) M else .bad
  | v, .d (.int k) => match plL M v with
    | some xs => if -(2 ^ 63) ≤ k ∧ k < 2 ^ 63 ∧ xs.length * k.toNat ≤ big then .ok (.d (.lst (List.replicate k.toNat xs).flatten)) M else .bad
    | none => .bad
  | _, _ => .bad
theorem repL_rep {mg : Mg} {S : Addr → Prop} {H : Hp} {us : List V} {xs : List D} (r : RepL mg S H us xs) : ∀ n : Nat, RepL mg S H (List.replicate n us).flatten (List.replicate n xs).flatten
  | 0 => rfl
  | n + 1 => by
    rw [List.replicate_succ, List.replicate_succ, List.flatten_cons, List.flatten_cons]
    exact r.append (repL_rep r n)
theorem k_mul : OpK (gm X) opMul (fun x y H Q => (rI CMul fun i j => .int (i * j)) x y H Q ∨ rRep x y H Q) := fun ρ M H x y v w Q E g rx ry q => by
  unfold opMul at q
  split at q
  · split at q
    · rename_i c
      exact .inl ⟨_, _, rx, ry, c, q ρ _ H .refl g rfl⟩
    · exact q.elim
  · split at q
    · rename_i xs ex
      split at q
      · rename_i hl
        obtain ⟨p1, us, e1, h1, l1⟩ := plL_rep g rx ex
        exact .inr ⟨p1, _, us, e1, ry, h1, hl.1, hl.2.1, by rw [RepL.length l1]; exact big_le hl.2.2, kont_lst g (repL_rep l1 _) q⟩
      · exact q.elim
    · exact q.elim
  · exact q.elim
theorem ve_mul (ha : VE X W a f) (hb : VE X W b g) : VE X W (.BinOp a .Mult b pos) (fOp opMul f g) := ve_op (OpR.or op_mul op_rep) k_mul ha hb
def fNeg (f : EF) : EF := fun e M => rbind (f e M) fun v M1 => match v with
  | .d (.int i) => .ok (.d (.int (-i))) M1
  | _ => .bad
theorem ve_neg (ha : VE X W a f) : VE X W (.UnaryOp .USub a pos) (fNeg f) := pe_imp (pe_un un_neg ha) fun σ H Q h => by
  refine lift_bind h fun ρ env M H1 u v es r q => ?_
  split at q
  · exact ⟨_, r, q ρ _ H1 .refl es.gs rfl⟩
  · exact q.elim
end
end Vl
set_option Elab.async false
set_option linter.all false
set_option maxRecDepth 100000
/-! Vl3: ==, <, in, is; tests; and, or, not; if-expressions; subscripts and slices. -/
namespace Vl
open PySem PySem.Spec PyProof.Rows L2

/-! ### == -/
mutual
def toPy : D → PyData
  | .non => .none
  | .bl b => .bool b
  | .int i => .int i
  | .str x => .str x
  | .scr ns => .list (ns.map PyData.int)
  | .lst l => .list (toPys l)
  | .tup l => .tuple (toPys l)
  | .dct _ => .dict []
  | .ins _ _ => .dict []
  | .glo _ => .dict []
def toPys : List D → List PyData
  | [] => []
  | x :: r => toPy x :: toPys r
end
theorem toPys_eq : ∀ l : List D, toPys l = l.map toPy
  | [] => rfl
  | x :: r => by rw [toPys, toPys_eq r]; rfl
def pyOf (M : Mem) : Val → PyData
  | .d x => toPy x
  | .obj k => match M[k]? with
    | some (.lst l) => .list (toPys l)
    | _ => .dict []
  | .exc _ => .dict []
theorem canLay_cons {x : PyData} {xs : List PyData} (h : PyData.canLayAll0 (x :: xs) = true) : x.canLay0 = true ∧ PyData.canLayAll0 xs = true := by
  simpa [PyData.canLayAll0] using h
section
variable {mg : Mg} {S : Addr → Prop} {H : Hp}
theorem dpAll_ints {K : PySem.W.Frag} : ∀ ns : List Int, DpAll K H (ns.map V.int) (ns.map PyData.int)
  | [] => .nil
  | n :: ns => .cons (.int n) (dpAll_ints ns)
mutual
theorem dp_of {v : V} : ∀ {d : D}, Rep mg S H v d → (toPy d).canLay0 = true → Dp mg.K H v (toPy d)
  | .non, h, _ => by cases h; exact .non
  | .bl b, h, _ => by cases h; exact .bl b
  | .int b, h, _ => by cases h; exact .int b
  | .str b, h, _ => by cases h; exact .str b
  | .scr ns, h, _ => by
    obtain ⟨a, rfl, ⟨r, n⟩ | r⟩ := h
    · exact .lst (.inl r) (dpAll_ints ns)
    · exact .lst (r H) (dpAll_ints ns)
  | .lst l, h, c => by
    obtain ⟨a, us, rfl, r, n, q⟩ := h
    have c' : PyData.canLayAll0 (toPys l) = true := by simpa [toPy, PyData.canLay0] using c
    exact .lst (.inl (.inl r)) (dpAll_of q c')
  | .tup l, h, c => by
    obtain ⟨a, us, rfl, r, n, q⟩ := h
    have c' : PyData.canLayAll0 (toPys l) = true := by simpa [toPy, PyData.canLay0] using c
    exact .tup (.inl r) (dpAll_of q c')
  | .dct _, _, c => by simp [toPy, PyData.canLay0] at c
  | .ins _ _, _, c => by simp [toPy, PyData.canLay0] at c
  | .glo _, _, c => by simp [toPy, PyData.canLay0] at c
theorem dpAll_of {us : List V} : ∀ {l : List D}, RepL mg S H us l → PyData.canLayAll0 (toPys l) = true → DpAll mg.K H us (toPys l)
  | [], h, _ => by cases h; exact .nil
  | x :: r, h, c => by
    obtain ⟨u, ws, rfl, h1, h2⟩ := h
    have c' := canLay_cons (show PyData.canLayAll0 (toPy x :: toPys r) = true from c)
    exact .cons (dp_of h1 c'.1) (dpAll_of h2 c'.2)
end
end
theorem dp_pyOf {mg : Mg} {ρ : Rho} {M : Mem} {H : Hp} {u : V} {v : Val} (g : Gs mg ρ M H) (r : RepV mg ρ M H u v) (c : (pyOf M v).canLay0 = true) : Dp mg.K H u (pyOf M v) := by
  cases v with
  | exc x => simp [pyOf, PyData.canLay0] at c
  | d x => exact dp_of r c
  | obj k =>
    unfold pyOf at c ⊢
    dsimp only at c ⊢
    split
    · rename_i l el
      rw [el] at c
      obtain ⟨us, h, q⟩ := g.at_ k _ el
      rw [r.1]
      exact .lst (.inl (.inl h)) (dpAll_of q (by simpa [PyData.canLay0] using c))
    · rename_i hn
      split at c
      · rename_i l el; exact absurd el (hn l)
      · simp [PyData.canLay0] at c
def opEq (v w : Val) (M : Mem) : R Val := if SeqAt.shaped (pyOf M v) = true ∧ SeqAt.shaped (pyOf M w) = true then .ok (.d (.bl (PyData.eqv (pyOf M v) (pyOf M w)))) M else .bad
def opNe (v w : Val) (M : Mem) : R Val := if SeqAt.shaped (pyOf M v) = true ∧ SeqAt.shaped (pyOf M w) = true then .ok (.d (.bl (!PyData.eqv (pyOf M v) (pyOf M w)))) M else .bad
theorem canLay_of_shaped {d : PyData} (h : SeqAt.shaped d = true) : d.canLay0 = true := (Bool.and_eq_true_iff.mp h).1
section
variable {X : Cx} {W : WX} {e a b : Expr} {es : List Expr} {f g : EF} {pos : Pos} {r : R2} {op : Val → Val → Mem → R Val} {k : Nat}
theorem k_eq : OpK (gm X) opEq (rEqD X.K) := fun ρ M H x y v w Q E g rx ry q => by
  unfold opEq at q
  split at q
  · rename_i c
    exact ⟨_, _, dp_pyOf g rx (canLay_of_shaped c.1), dp_pyOf g ry (canLay_of_shaped c.2), c.1, c.2, q ρ _ H .refl g rfl⟩
  · exact q.elim
theorem k_ne : OpK (gm X) opNe (rNeD X.K) := fun ρ M H x y v w Q E g rx ry q => by
  unfold opNe at q
  split at q
  · rename_i c
    exact ⟨_, _, dp_pyOf g rx (canLay_of_shaped c.1), dp_pyOf g ry (canLay_of_shaped c.2), c.1, c.2, q ρ _ H .refl g rfl⟩
  · exact q.elim
theorem ve_eq (hr : Rm k X.A) (ha : VE X W a f) (hb : VE X W b g) (hm : behindInMarks .Eq b = false := by exact nomark _) : VE X W (.Compare a [.Eq] [b] pos) (fOp opEq f g) := ve_cmp (op_eqD hr.units) k_eq ha hb hm
theorem ve_ne (hr : Rm k X.A) (ha : VE X W a f) (hb : VE X W b g) (hm : behindInMarks .NotEq b = false := by exact nomark _) : VE X W (.Compare a [.NotEq] [b] pos) (fOp opNe f g) := ve_cmp (op_neD hr.units) k_ne ha hb hm

/-! ### order -/
def intsOf : List D → Option (List Int)
  | [] => some []
  | .int i :: r => (intsOf r).map (i :: ·)
  | _ :: _ => none
theorem intsOf_rep {mg : Mg} {S : Addr → Prop} {H : Hp} : ∀ {l : List D} {us : List V} {ns : List Int}, RepL mg S H us l → intsOf l = some ns → us = ns.map V.int
  | [], _, _, h, e => by cases e; exact h
  | x :: r, _, _, h, e => by
    cases x <;> try (simp [intsOf] at e; done)
    simp only [intsOf, Option.map_eq_some_iff] at e
    obtain ⟨ns, e, rfl⟩ := e
    obtain ⟨u, ws, rfl, h1, h2⟩ := h
    cases h1
    rw [intsOf_rep h2 e]; rfl
def opLt (v w : Val) (M : Mem) : R Val := match v, w with
  | .d (.int i), .d (.int j) => .ok (.d (.bl (decide (i < j)))) M
  | .d (.tup xs), .d (.tup ys) => match intsOf xs, intsOf ys with
    | some ns, some ms => .ok (.d (.bl (HT.lexLt ns ms))) M
    | _, _ => .bad
  | _, _ => .bad
theorem k_lt : OpK (gm X) opLt (fun x y H Q => (rI0 fun i j => .bl (decide (i < j))) x y H Q ∨ rLtT X.K x y H Q) := fun ρ M H x y v w Q E g rx ry q => by
  unfold opLt at q
  split at q
  · exact .inl ⟨_, _, rx, ry, q ρ _ H .refl g rfl⟩
  · split at q
    · rename_i ns ms ex ey
      obtain ⟨p1, us, e1, h1, l1⟩ := rdT_rep rx rfl
      obtain ⟨p2, ws, e2, h2, l2⟩ := rdT_rep ry rfl
      have e3 := intsOf_rep l1 ex
      have e4 := intsOf_rep l2 ey
      subst e3; subst e4
      exact .inr ⟨p1, p2, ns, ms, e1, e2, h1, h2, q ρ _ H .refl g rfl⟩
    · exact q.elim
  · exact q.elim
def opB (h : Int → Int → Bool) (v w : Val) (M : Mem) : R Val := match v, w with
  | .d (.int i), .d (.int j) => .ok (.d (.bl (h i j))) M
  | _, _ => .bad
theorem k_opB {h : Int → Int → Bool} : OpK (gm X) (opB h) (rI0 fun i j => .bl (h i j)) := fun ρ M H x y v w Q E g rx ry q => by
  unfold opB at q
  split at q
  · exact ⟨_, _, rx, ry, q ρ _ H .refl g rfl⟩
  · exact q.elim
abbrev opLe := opB fun i j => decide (i ≤ j)
abbrev opGt := opB fun i j => decide (j < i)
abbrev opGe := opB fun i j => decide (j ≤ i)
theorem ve_lt (hr : Rm k X.A) (ha : VE X W a f) (hb : VE X W b g) (hm : behindInMarks .Lt b = false := by exact nomark _) : VE X W (.Compare a [.Lt] [b] pos) (fOp opLt f g) := ve_cmp (OpR.or op_lt (op_ltT hr.units0)) k_lt ha hb hm
theorem ve_le (ha : VE X W a f) (hb : VE X W b g) (hm : behindInMarks .LtE b = false := by exact nomark _) : VE X W (.Compare a [.LtE] [b] pos) (fOp opLe f g) := ve_cmp op_le k_opB ha hb hm
theorem ve_gt (ha : VE X W a f) (hb : VE X W b g) (hm : behindInMarks .Gt b = false := by exact nomark _) : VE X W (.Compare a [.Gt] [b] pos) (fOp opGt f g) := ve_cmp op_gt k_opB ha hb hm
theorem ve_ge (ha : VE X W a f) (hb : VE X W b g) (hm : behindInMarks .GtE b = false := by exact nomark _) : VE X W (.Compare a [.GtE] [b] pos) (fOp opGe f g) := ve_cmp op_ge k_opB ha hb hm

/-! ### is -/
def isN : Val → Option Bool
  | .d .non => some true
  | .d (.glo _) => none
  | _ => some false
def fIsN (neg : Bool) (f : EF) : EF := fun e M => rbind (f e M) fun v M1 => match isN v with
  | some b => .ok (.d (.bl (if neg then !b else b))) M1
  | none => .bad
theorem rep_non {mg : Mg} {ρ : Rho} {M : Mem} {H : Hp} {u : V} {v : Val} {b : Bool} (r : RepV mg ρ M H u v) (hg : isN v = some b) : decide (u = .non) = b := by
  cases v with
  | obj k => obtain ⟨rfl, _⟩ := r; cases hg; rfl
  | exc x => obtain ⟨a, _, _, _, rfl, _⟩ := r; cases hg; rfl
  | d x =>
    cases x with
    | non => cases r; cases hg; rfl
    | bl b => cases r; cases hg; rfl
    | int b => cases r; cases hg; rfl
    | str b => cases r; cases hg; rfl
    | scr ns => obtain ⟨a, rfl, _⟩ := r; cases hg; rfl
    | lst l => obtain ⟨a, us, rfl, _⟩ := r; cases hg; rfl
    | tup l => obtain ⟨a, us, rfl, _⟩ := r; cases hg; rfl
    | dct l => obtain ⟨a, us, rfl, _⟩ := r; cases hg; rfl
    | ins C l => obtain ⟨a, Ca, dx, us, rfl, _⟩ := r; cases hg; rfl
    | glo x => cases hg
theorem ve_isN {j : Nat} {pos' : Pos} (ha : VE X W a f) : VE X W (.Compare a [.Is] [.Constant .none j pos'] pos) (fIsN false f) := pe_imp (pe_cmp (pc_isN ha)) fun σ H Q h => by
  refine lift_bind h fun ρ env M H1 u v es r q => ?_
  split at q
  · rename_i b e
    rw [rep_non r e]
    exact q ρ _ H1 .refl es.gs rfl
  · exact q.elim
theorem ve_notN {j : Nat} {pos' : Pos} (ha : VE X W a f) : VE X W (.Compare a [.IsNot] [.Constant .none j pos'] pos) (fIsN true f) := pe_imp (pe_cmp (pc_notN ha)) fun σ H Q h => by
  refine lift_bind h fun ρ env M H1 u v es r q => ?_
  split at q
  · rename_i b e
    rw [rep_non r e]
    exact q ρ _ H1 .refl es.gs rfl
  · exact q.elim
def fIsB (neg : Bool) (f g : EF) : EF := fOp (fun v w M => match v, w with
  | .d (.bl b), .d (.bl c) => .ok (.d (.bl (if neg then !decide (b = c) else decide (b = c)))) M
  | _, _ => .bad) f g
theorem ve_isB (ha : VE X W a f) (hb : VE X W b g) (hm : behindInMarks .Is b = false := by exact nomark _) : VE X W (.Compare a [.Is] [b] pos) (fIsB false f g) := ve_cmp op_is_bl (fun ρ M H x y v w Q E g rx ry q => by
  split at q
  · exact ⟨_, _, rx, ry, q ρ _ H .refl g rfl⟩
  · exact q.elim) ha hb hm
theorem ve_notB (ha : VE X W a f) (hb : VE X W b g) (hm : behindInMarks .IsNot b = false := by exact nomark _) : VE X W (.Compare a [.IsNot] [b] pos) (fIsB true f g) := ve_cmp op_isnot_bl (fun ρ M H x y v w Q E g rx ry q => by
  split at q
  · exact ⟨_, _, rx, ry, q ρ _ H .refl g rfl⟩
  · exact q.elim) ha hb hm
end
end Vl
set_option Elab.async false
set_option linter.all false
set_option maxRecDepth 100000
/-! Vl4: tests; and, or, not; if-expressions; in; subscripts and slices. -/
namespace Vl
open PySem PySem.Spec PyProof.Rows L2

abbrev BF := En → Mem → R Bool
def Kontb (mg : Mg) (ρ : Rho) (M : Mem) (H : Hp) (r : R Bool) (Q : Bool → Hp → Prop) (E : XK) : Prop := match r with
  | .ok v M' => ∀ ρ' H', Stp ρ M H ρ' M' H' → Gs mg ρ' M' H' → Q v H'
  | .err x M' => ∀ ρ' cls d H', Stp ρ M H ρ' M' H' → Gs mg ρ' M' H' → RepX mg ρ' M' H' cls d x → E cls d H'
  | .bad => False
def liftb (mg : Mg) (W : WX) (f : BF) : TT := fun σ H Q => ∃ ρ env M, Es mg ρ env M σ H ∧ Kontb mg ρ M H (f env M) Q (fun c d H' => W c d σ H')
def VT (X : Cx) (W : WX) (e : Expr) (f : BF) : Prop := PT X e (liftb (gm X) W f)
def VW (X : Cx) (W : WX) (e : Expr) (f : BF) : Prop := PW X e (liftb (gm X) W f)
def VC (X : Cx) (W : WX) (o : CmpOp) (a b : Expr) (f : EF) : Prop := PC X o a b (lift (gm X) W f)
theorem pc_imp {X : Cx} {o : CmpOp} {a b : Expr} {t t' : TE} (h : PC X o a b t) (k : ∀ σ H Q, t' σ H Q → t σ H Q) : PC X o a b t' := ⟨fun pins s σ H Q I q => h.run pins s σ H Q I (k σ H Q q)⟩
theorem pw_imp {X : Cx} {e : Expr} {t t' : TT} (h : PW X e t) (k : ∀ σ H Q, t' σ H Q → t σ H Q) : PW X e t' := ⟨fun wh pins s σ H Q I q => h.run wh pins s σ H Q I (k σ H Q q)⟩
theorem pc_op {X : Cx} {op : CmpOp} {a b : Expr} {ta tb : TE} {r : R2} (ho : OpR X (compareOp op) r) (ha : PE X a ta) (hb : PE X b tb) : PC X op a b (tOp r ta tb) := by
  refine ⟨fun pins s σ H Q I h => ?_⟩
  exact bin ha hb I h fun v u s2 x y H2 I2 rx ry q => ho pins s2 σ H2 x y v u Q I2 rx ry q
section
variable {mg : Mg} {ρ ρ' : Rho} {M M' : Mem} {H H' : Hp}
theorem Kontb.from {r : R Bool} {Q : Bool → Hp → Prop} {E : XK} (s : Stp ρ M H ρ' M' H') (h : Kontb mg ρ M H r Q E) : Kontb mg ρ' M' H' r Q E := by
  cases r with
  | ok v M2 => exact fun ρ2 H2 s2 g => h ρ2 H2 (s.trans s2) g
  | err x M2 => exact fun ρ2 c d H2 s2 g r => h ρ2 c d H2 (s.trans s2) g r
  | bad => exact h
theorem Kontb.mono {r : R Bool} {Q Q' : Bool → Hp → Prop} {E E' : XK} (h : Kontb mg ρ M H r Q E) (k : ∀ u H, Q u H → Q' u H) (k' : ∀ c d H, E c d H → E' c d H) : Kontb mg ρ M H r Q' E' := by
  cases r with
  | ok v M2 => exact fun ρ2 H2 s2 g => k _ _ (h ρ2 H2 s2 g)
  | err x M2 => exact fun ρ2 c d H2 s2 g r => k' _ _ _ (h ρ2 c d H2 s2 g r)
  | bad => exact h
/-- a value, then a truth -/
theorem Kont.bindb {r : R Val} {k : Val → Mem → R Bool} {Q : Bool → Hp → Prop} {E : XK} (h : Kontb mg ρ M H (rbind r k) Q E) :
    Kont mg ρ M H r (fun u H1 => ∃ ρ1 M1 v, Stp ρ M H ρ1 M1 H1 ∧ Gs mg ρ1 M1 H1 ∧ RepV mg ρ1 M1 H1 u v ∧ Kontb mg ρ1 M1 H1 (k v M1) Q E) E := by
  cases r with
  | ok v M2 => exact fun ρ2 u H2 s2 g rv => ⟨ρ2, M2, v, s2, g, rv, h.from s2⟩
  | err x M2 => exact h
  | bad => exact h
theorem Kontb.bind {r : R Bool} {k : Bool → Mem → R Val} {Q : VK} {E : XK} (h : Kont mg ρ M H (rbind r k) Q E) :
    Kontb mg ρ M H r (fun b H1 => ∃ ρ1 M1, Stp ρ M H ρ1 M1 H1 ∧ Gs mg ρ1 M1 H1 ∧ Kont mg ρ1 M1 H1 (k b M1) Q E) E := by
  cases r with
  | ok v M2 => exact fun ρ2 H2 s2 g => ⟨ρ2, M2, s2, g, h.from s2⟩
  | err x M2 => exact h
  | bad => exact h
theorem Kontb.bindb {r : R Bool} {k : Bool → Mem → R Bool} {Q : Bool → Hp → Prop} {E : XK} (h : Kontb mg ρ M H (rbind r k) Q E) :
    Kontb mg ρ M H r (fun b H1 => ∃ ρ1 M1, Stp ρ M H ρ1 M1 H1 ∧ Gs mg ρ1 M1 H1 ∧ Kontb mg ρ1 M1 H1 (k b M1) Q E) E := by
  cases r with
  | ok v M2 => exact fun ρ2 H2 s2 g => ⟨ρ2, M2, s2, g, h.from s2⟩
  | err x M2 => exact h
  | bad => exact h
end
/-- truth of a value -/
def tru (M : Mem) : Val → Option Bool
  | .d .non => some false
  | .d (.bl b) => some b
  | .d (.int i) => some (i != 0)
  | .d (.str x) => if x.length ≤ big then some ((x.length : Int) != 0) else none
  | v => match rdS M v with
    | some l => some (!l.isEmpty)
    | none => match v with
      | .obj _ => (rdD M v).map fun l => !l.isEmpty
      | _ => none
theorem isEmpty_rep {mg : Mg} {S : Addr → Prop} {H : Hp} {us : List V} {l : List D} (r : RepL mg S H us l) : us.isEmpty = l.isEmpty := by
  have e := RepL.length r
  cases us <;> cases l <;> first | rfl | simp at e
theorem isEmpty_repP {mg : Mg} {S : Addr → Prop} {H : Hp} : ∀ {l : List (Key × D)} {us : List (Key × V)}, RepP mg S H us l → us.isEmpty = l.isEmpty
  | [], _, h => by cases h; rfl
  | (k, x) :: r, _, h => by obtain ⟨u, ws, rfl, _⟩ := h; rfl
theorem tru_rep {mg : Mg} {ρ : Rho} {M : Mem} {H : Hp} {u : V} {v : Val} {b : Bool} (g : Gs mg ρ M H) (r : RepV mg ρ M H u v) (e : tru M v = some b) : TruV mg.K u H b := by
  unfold tru at e
  split at e
  · cases r; cases e; rfl
  · cases r; cases e; rfl
  · cases r; cases e; rfl
  · split at e
    · rename_i hl
      cases r; cases e
      exact ⟨big_le hl, rfl⟩
    · cases e
  · split at e
    · rename_i l el
      cases e
      obtain ⟨a, us, rfl, h | h, q⟩ := rdS_rep g r el
      · exact .inl ⟨us, h, by rw [isEmpty_rep q]⟩
      · exact .inr (.inl ⟨us, h, by rw [isEmpty_rep q]⟩)
    · split at e
      · rename_i k _ _ _ _ _ 
        simp only [Option.map_eq_some_iff] at e
        obtain ⟨l, el, rfl⟩ := e
        unfold rdD at el
        dsimp only at el
        split at el
        · rename_i ps ep
          cases el
          obtain ⟨us, h, q⟩ := g.at_ k _ ep
          rw [r.1]
          exact .inr (.inr ⟨us, h, by rw [isEmpty_repP q]⟩)
        · cases el
      · cases e
section
variable {X : Cx} {W : WX} {e a b c : Expr} {es rest : List Expr} {f g h : EF} {p q : BF} {pos : Pos} {r r' : R2} {op op' : Val → Val → Mem → R Val} {k : Nat} {o o' : CmpOp}
theorem ve_vc (hc : VC X W o a b f) (h1 : behindInMarks o b = false := by first | exact nobehind _ (by decide) (by decide) | rfl) : VE X W (.Compare a [o] [b] pos) f := pe_cmp hc h1
def asB (f : EF) : BF := fun e M => rbind (f e M) fun v M1 => match v with
  | .d (.bl b) => .ok b M1
  | _ => .bad
theorem liftb_asB : ∀ σ H Q, liftb (gm X) W (asB f) σ H Q → lift (gm X) W f σ H (fun x H1 => ∃ c, x = .bl c ∧ Q c H1) := fun σ H Q ⟨ρ, env, M, es, h⟩ =>
  ⟨ρ, env, M, es, (Kont.bindb h).mono (fun u H1 ⟨ρ1, M1, v, s1, g1, r, q⟩ => by
    split at q
    · exact ⟨_, r, q ρ1 H1 .refl g1⟩
    · exact q.elim) fun _ _ _ z => z⟩
theorem vt_vc (hc : VC X W o a b f) (h1 : behindInMarks o b = false := by first | exact nobehind _ (by decide) (by decide) | rfl) : VT X W (.Compare a [o] [b] pos) (asB f) := pt_imp (pt_cmp hc h1) liftb_asB
/-- any value, by its truth -/
def asT (f : EF) : BF := fun e M => rbind (f e M) fun v M1 => match tru M1 v with
  | some b => .ok b M1
  | none => .bad
theorem vt_val (hv : VE X W a f) (he : ∀ whole, isTrue a X.env whole = (do let v ← whole; standAt a.pos; holding [v] (truthy v)) := by intro _; rfl) : VT X W a (asT f) := pt_imp (pt_truth hv he) fun σ H Q ⟨ρ, env, M, es, h⟩ =>
  ⟨ρ, env, M, es, (Kont.bindb h).mono (fun u H1 ⟨ρ1, M1, v, s1, g1, r, q⟩ => by
    split at q
    · rename_i b eb
      exact ⟨b, tru_rep g1 r eb, q ρ1 H1 .refl g1⟩
    · exact q.elim) fun _ _ _ z => z⟩

/-! ### comparisons -/
theorem vc_op (ho : OpR X (compareOp o) r) (k : OpK (gm X) op r) (ha : VE X W a f) (hb : VE X W b g) : VC X W o a b (fOp op f g) := pc_imp (pc_op ho ha hb) (lift_op k)
theorem vc_eq (hr : Rm k X.A) (ha : VE X W a f) (hb : VE X W b g) : VC X W .Eq a b (fOp opEq f g) := vc_op (op_eqD hr.units) k_eq ha hb
theorem vc_ne (hr : Rm k X.A) (ha : VE X W a f) (hb : VE X W b g) : VC X W .NotEq a b (fOp opNe f g) := vc_op (op_neD hr.units) k_ne ha hb
theorem vc_lt (hr : Rm k X.A) (ha : VE X W a f) (hb : VE X W b g) : VC X W .Lt a b (fOp opLt f g) := vc_op (OpR.or op_lt (op_ltT hr.units0)) k_lt ha hb
theorem vc_le (ha : VE X W a f) (hb : VE X W b g) : VC X W .LtE a b (fOp opLe f g) := vc_op op_le k_opB ha hb
theorem vc_gt (ha : VE X W a f) (hb : VE X W b g) : VC X W .Gt a b (fOp opGt f g) := vc_op op_gt k_opB ha hb
theorem vc_ge (ha : VE X W a f) (hb : VE X W b g) : VC X W .GtE a b (fOp opGe f g) := vc_op op_ge k_opB ha hb
theorem vc_isN {j : Nat} {pos' : Pos} (ha : VE X W a f) : VC X W .Is a (.Constant .none j pos') (fIsN false f) := pc_imp (pc_isN ha) fun σ H Q h => by
  refine lift_bind h fun ρ env M H1 u v es r q => ?_
  split at q
  · rename_i b e
    rw [rep_non r e]
    exact q ρ _ H1 .refl es.gs rfl
  · exact q.elim
theorem vc_notN {j : Nat} {pos' : Pos} (ha : VE X W a f) : VC X W .IsNot a (.Constant .none j pos') (fIsN true f) := pc_imp (pc_notN ha) fun σ H Q h => by
  refine lift_bind h fun ρ env M H1 u v es r q => ?_
  split at q
  · rename_i b e
    rw [rep_non r e]
    exact q ρ _ H1 .refl es.gs rfl
  · exact q.elim
def opIsB (neg : Bool) (v w : Val) (M : Mem) : R Val := match v, w with
  | .d (.bl b), .d (.bl c) => .ok (.d (.bl (if neg then !decide (b = c) else decide (b = c)))) M
  | _, _ => .bad
theorem vc_isB (ha : VE X W a f) (hb : VE X W b g) : VC X W .Is a b (fOp (opIsB false) f g) := vc_op op_is_bl (fun ρ M H x y v w Q E g rx ry q => by
  unfold opIsB at q
  split at q
  · exact ⟨_, _, rx, ry, q ρ _ H .refl g rfl⟩
  · exact q.elim) ha hb
theorem vc_notB (ha : VE X W a f) (hb : VE X W b g) : VC X W .IsNot a b (fOp (opIsB true) f g) := vc_op op_isnot_bl (fun ρ M H x y v w Q E g rx ry q => by
  unfold opIsB at q
  split at q
  · exact ⟨_, _, rx, ry, q ρ _ H .refl g rfl⟩
  · exact q.elim) ha hb
/-- a < b < c -/
def fChain (op op' : Val → Val → Mem → R Val) (f g h : EF) : EF := fun e M => rbind (f e M) fun v M1 => rbind (g e M1) fun w M2 => rbind (op v w M2) fun z M3 => match z with
  | .d (.bl true) => rbind (h e M3) fun y M4 => op' w y M4
  | .d (.bl false) => .ok (.d (.bl false)) M3
  | _ => .bad
theorem lift_chain {op op' : Val → Val → Mem → R Val} (k1 : OpK (gm X) op r) (k2 : OpK (gm X) op' r') : ∀ σ H Q, lift (gm X) W (fChain op op' f g h) σ H Q → tChain r r' (lift (gm X) W f) (lift (gm X) W g) (lift (gm X) W h) σ H Q := fun σ H Q hh => by
  refine lift_bind hh fun ρ env M H1 u v es rv q => ⟨ρ, env, M, es, (Kont.bind q).mono (fun u2 H2 hq => ?_) fun _ _ _ z => z⟩
  obtain ⟨ρ2, M2, w, s2, g2, rw', q2⟩ := hq
  refine k1 ρ2 M2 H2 u u2 v w _ _ g2 (rv.step s2) rw' ((Kont.bind q2).mono (fun u3 H3 hq => ?_) fun _ _ _ z => z)
  obtain ⟨ρ3, M3, z, s3, g3, rz, q3⟩ := hq
  split at q3
  · refine ⟨true, rz, ?_⟩
    rw [if_pos rfl]
    refine ⟨ρ3, env, M3, (es.step s2 g2).step s3 g3, (Kont.bind q3).mono (fun u4 H4 hq => ?_) fun _ _ _ z => z⟩
    obtain ⟨ρ4, M4, y, s4, g4, ry, q4⟩ := hq
    exact k2 ρ4 M4 H4 u2 u4 w y Q _ g4 ((rw'.step s3).step s4) ry q4
  · refine ⟨false, rz, ?_⟩
    rw [if_neg Bool.false_ne_true]
    exact q3 ρ3 _ H3 .refl g3 rfl
  · exact q3.elim
theorem ve_chain_le (ha : VE X W a f) (hb : VE X W b g) (hc : VE X W c h) (hm : lastMarks [CmpOp.LtE, CmpOp.LtE] [b, c] = false := by first | rfl | with_unfolding_all rfl) : VE X W (.Compare a [.LtE, .LtE] [b, c] pos) (fChain opLe opLe f g h) := pe_imp (pe_chain op_le op_le ha hb hc (hm := hm)) (lift_chain k_opB k_opB)
theorem vt_chain_le (ha : VE X W a f) (hb : VE X W b g) (hc : VE X W c h) (hm : lastMarks [CmpOp.LtE, CmpOp.LtE] [b, c] = false := by first | rfl | with_unfolding_all rfl) : VT X W (.Compare a [.LtE, .LtE] [b, c] pos) (asB (fChain opLe opLe f g h)) := pt_imp (pt_chain op_le op_le ha hb hc (hm := hm)) fun σ H Q hq => lift_chain k_opB k_opB σ H _ (liftb_asB σ H Q hq)
theorem ve_chain_ltle (hr : Rm k X.A) (ha : VE X W a f) (hb : VE X W b g) (hc : VE X W c h) (hm : lastMarks [CmpOp.Lt, CmpOp.LtE] [b, c] = false := by first | rfl | with_unfolding_all rfl) : VE X W (.Compare a [.Lt, .LtE] [b, c] pos) (fChain opLt opLe f g h) := pe_imp (pe_chain (OpR.or op_lt (op_ltT hr.units0)) op_le ha hb hc (hm := hm)) (lift_chain k_lt k_opB)
theorem vt_chain_ltle (hr : Rm k X.A) (ha : VE X W a f) (hb : VE X W b g) (hc : VE X W c h) (hm : lastMarks [CmpOp.Lt, CmpOp.LtE] [b, c] = false := by first | rfl | with_unfolding_all rfl) : VT X W (.Compare a [.Lt, .LtE] [b, c] pos) (asB (fChain opLt opLe f g h)) := pt_imp (pt_chain (OpR.or op_lt (op_ltT hr.units0)) op_le ha hb hc (hm := hm)) fun σ H Q hq => lift_chain k_lt k_opB σ H _ (liftb_asB σ H Q hq)

/-! ### and, or, not, if-expressions -/
def bAnd (p q : BF) : BF := fun e M => rbind (p e M) fun b M1 => if b = true then q e M1 else .ok false M1
def bOr (p q : BF) : BF := fun e M => rbind (p e M) fun b M1 => if b = true then .ok true M1 else q e M1
def bNot (p : BF) : BF := fun e M => rbind (p e M) fun b M1 => .ok (!b) M1
theorem vw_and1 (ha : VT X W a p) : VW X W (.BoolOp .And [a] pos) p := pw_and1 ha
theorem vw_or1 (ha : VT X W a p) : VW X W (.BoolOp .Or [a] pos) p := pw_or1 ha
theorem vw_and (ha : VT X W a p) (hb : VW X W (.BoolOp .And (b :: rest) pos) q) : VW X W (.BoolOp .And (a :: b :: rest) pos) (bAnd p q) := pw_imp (pw_and ha hb) fun σ H Q ⟨ρ, env, M, es, h⟩ => by
  refine ⟨ρ, env, M, es, (Kontb.bindb h).mono (fun u H1 ⟨ρ1, M1, s1, g1, q⟩ => ?_) fun _ _ _ z => z⟩
  cases u with
  | true => exact ⟨ρ1, env, M1, es.step s1 g1, q⟩
  | false => exact q ρ1 H1 .refl g1
theorem vw_or (ha : VT X W a p) (hb : VW X W (.BoolOp .Or (b :: rest) pos) q) : VW X W (.BoolOp .Or (a :: b :: rest) pos) (bOr p q) := pw_imp (pw_or ha hb) fun σ H Q ⟨ρ, env, M, es, h⟩ => by
  refine ⟨ρ, env, M, es, (Kontb.bindb h).mono (fun u H1 ⟨ρ1, M1, s1, g1, q⟩ => ?_) fun _ _ _ z => z⟩
  cases u with
  | true => exact q ρ1 H1 .refl g1
  | false => exact ⟨ρ1, env, M1, es.step s1 g1, q⟩
theorem vt_w (h : VW X W e p) : VT X W e p := PW.pt h
theorem vt_not (ha : VT X W a p) : VT X W (.UnaryOp .Not a pos) (bNot p) := pt_imp (pt_not ha) fun σ H Q ⟨ρ, env, M, es, h⟩ =>
  ⟨ρ, env, M, es, (Kontb.bindb h).mono (fun u H1 ⟨ρ1, M1, s1, g1, q⟩ => q ρ1 H1 .refl g1) fun _ _ _ z => z⟩
/-- values -/
def fAnd (f g : EF) : EF := fun e M => rbind (f e M) fun v M1 => match tru M1 v with
  | some true => g e M1
  | some false => .ok v M1
  | none => .bad
def fOr (f g : EF) : EF := fun e M => rbind (f e M) fun v M1 => match tru M1 v with
  | some true => .ok v M1
  | some false => g e M1
  | none => .bad
def fNot (f : EF) : EF := fun e M => rbind (f e M) fun v M1 => match tru M1 v with
  | some b => .ok (.d (.bl (!b))) M1
  | none => .bad
theorem ve_one {o : BoolOp} (ha : VE X W a f) : VE X W (.BoolOp o [a] pos) f := pe_one ha
theorem ve_and (ha : VE X W a f) (hb : VE X W (.BoolOp .And (b :: rest) pos) g) : VE X W (.BoolOp .And (a :: b :: rest) pos) (fAnd f g) := pe_imp (pe_andT ha hb) fun σ H Q hh => by
  refine lift_bind hh fun ρ env M H1 u v es rv q => ?_
  split at q
  · rename_i eb
    refine ⟨true, tru_rep es.gs rv eb, ?_⟩
    rw [if_pos rfl]
    exact ⟨ρ, env, M, es, q⟩
  · rename_i eb
    refine ⟨false, tru_rep es.gs rv eb, ?_⟩
    rw [if_neg Bool.false_ne_true]
    exact q ρ u H1 .refl es.gs rv
  · exact q.elim
theorem ve_or (ha : VE X W a f) (hb : VE X W (.BoolOp .Or (b :: rest) pos) g) : VE X W (.BoolOp .Or (a :: b :: rest) pos) (fOr f g) := pe_imp (pe_orT ha hb) fun σ H Q hh => by
  refine lift_bind hh fun ρ env M H1 u v es rv q => ?_
  split at q
  · rename_i eb
    refine ⟨true, tru_rep es.gs rv eb, ?_⟩
    rw [if_pos rfl]
    exact q ρ u H1 .refl es.gs rv
  · rename_i eb
    refine ⟨false, tru_rep es.gs rv eb, ?_⟩
    rw [if_neg Bool.false_ne_true]
    exact ⟨ρ, env, M, es, q⟩
  · exact q.elim
theorem ve_not (ha : VE X W a f) : VE X W (.UnaryOp .Not a pos) (fNot f) := pe_imp (pe_notT ha) fun σ H Q hh => by
  refine lift_bind hh fun ρ env M H1 u v es rv q => ?_
  split at q
  · rename_i b eb
    exact ⟨b, tru_rep es.gs rv eb, q ρ _ H1 .refl es.gs rfl⟩
  · exact q.elim
def fIf (p : BF) (f g : EF) : EF := fun e M => rbind (p e M) fun b M1 => if b = true then f e M1 else g e M1
theorem ve_if (hc : VT X W c p) (ha : VE X W a f) (hb : VE X W b g) : VE X W (.IfExp c a b pos) (fIf p f g) := pe_imp (pe_ifExp hc ha hb) fun σ H Q ⟨ρ, env, M, es, h⟩ => by
  refine ⟨ρ, env, M, es, (Kontb.bind h).mono (fun u H1 ⟨ρ1, M1, s1, g1, q⟩ => ?_) fun _ _ _ z => z⟩
  cases u with
  | true => exact ⟨ρ1, env, M1, es.step s1 g1, q⟩
  | false => exact ⟨ρ1, env, M1, es.step s1 g1, q⟩
end
end Vl
set_option Elab.async false
set_option linter.all false
set_option maxRecDepth 100000
/-! Vl5: in, subscripts, slices. -/
namespace Vl
open PySem PySem.Spec PyProof.Rows L2
section
variable {X : Cx} {W : WX} {e a b c : Expr} {es rest : List Expr} {f g h : EF} {p q : BF} {pos : Pos} {r r' : R2} {k : Nat} {o o' : CmpOp}

/-! ### in -/
def flatD : D → Bool
  | .non => true | .bl _ => true | .int _ => true | .str _ => true | _ => false
theorem flat_rep {mg : Mg} {S : Addr → Prop} {H : Hp} {v : V} {d : D} (r : Rep mg S H v d) (h : flatD d = true) : flatV v = true := by
  cases d <;> first | (cases r; rfl) | (cases h)
theorem eqv_rep {mg : Mg} {S : Addr → Prop} {H : Hp} {v w : V} {d e : D} (r : Rep mg S H v d) (r2 : Rep mg S H w e) (h : flatD d = true) (h2 : flatD e = true) : eqV v w = PyData.eqv (toPy d) (toPy e) := by
  cases d <;> first | (cases h; done) | (cases e <;> first | (cases h2; done) | (cases r; cases r2; simp only [eqV, toPy, PyData.eqv]))
theorem flats_rep {mg : Mg} {S : Addr → Prop} {H : Hp} : ∀ {l : List D} {us : List V}, RepL mg S H us l → l.all flatD = true → us.all flatV = true
  | [], _, r, _ => by cases r; rfl
  | x :: l, _, r, h => by
    obtain ⟨u, ws, rfl, h1, h2⟩ := r
    rw [List.all_cons, Bool.and_eq_true] at h
    rw [List.all_cons, flat_rep h1 h.1, flats_rep h2 h.2]; rfl
theorem inV_rep {mg : Mg} {S : Addr → Prop} {H : Hp} {w : V} {e : D} (r2 : Rep mg S H w e) (h2 : flatD e = true) : ∀ {l : List D} {us : List V}, RepL mg S H us l → l.all flatD = true → inV w us = (toPys l).any fun z => PyData.eqv z (toPy e)
  | [], _, r, _ => by cases r; rfl
  | x :: l, _, r, h => by
    obtain ⟨u, ws, rfl, h1, h3⟩ := r
    rw [List.all_cons, Bool.and_eq_true] at h
    have ih := inV_rep r2 h2 h3 h.2
    unfold inV at ih ⊢
    rw [List.any_cons, eqv_rep h1 r2 h.1 h2, ih]
    rfl
def inRes (neg b : Bool) (M : Mem) : R Val := .ok (.d (.bl (if neg then !b else b))) M
/-- x in a list, a tuple, a text (one sign) -/
def opIn (neg : Bool) (v w : Val) (M : Mem) : R Val := match rdL M w with
  | some l => if SeqAt.shaped (pyOf M v) = true ∧ SeqAt.shaped (.list (toPys l)) = true then inRes neg ((toPys l).any fun z => PyData.eqv z (pyOf M v)) M else .bad
  | none => match v, w with
    | .d x, .d (.tup l) => if flatD x = true ∧ l.all flatD = true then inRes neg ((toPys l).any fun z => PyData.eqv z (toPy x)) M else .bad
    | .d (.str x), .d (.str z) => match x.cps.toList with
      | [c] => inRes neg (decide (c ∈ z.cps.toList)) M
      | _ => .bad
    | _, _ => .bad
theorem rdL_py {mg : Mg} {ρ : Rho} {M : Mem} {H : Hp} {u : V} {v : Val} {l : List D} (g : Gs mg ρ M H) (r : RepV mg ρ M H u v) (e : rdL M v = some l) (c : (PyData.list (toPys l)).canLay0 = true) : Dp mg.K H u (.list (toPys l)) := by
  obtain ⟨a, us, rfl, h, q⟩ := rdL_rep g r e
  exact .lst h (dpAll_of q (by simpa [PyData.canLay0] using c))
theorem str_one {x : Str} {c : Nat} (h : x.cps.toList = [c]) : x = ⟨#[c]⟩ := by
  cases x with
  | mk a =>
    have : a = #[c] := by
      have := congrArg List.toArray h
      simpa using this
    rw [this]
theorem k_in : OpK (gm X) (opIn false) (fun x y H Q => rInD X.K x y H Q ∨ (fun x y H Q => rIn X.K false x y H Q ∨ (∃ (c : Nat) (z : Str), x = .str ⟨#[c]⟩ ∧ y = .str z ∧ Q (.bl (decide (c ∈ z.cps.toList))) H)) x y H Q) := fun ρ M H x y v w Q E g rx ry q => by
  unfold opIn at q
  split at q
  · rename_i l el
    split at q
    · rename_i c
      exact .inl ⟨_, _, dp_pyOf g rx (canLay_of_shaped c.1), rdL_py g ry el (canLay_of_shaped c.2), c.1, c.2, q ρ _ H .refl g rfl⟩
    · exact q.elim
  · split at q
    · rename_i d l
      split at q
      · rename_i c
        obtain ⟨a, us, rfl, h, n, l1⟩ := ry
        refine .inr (.inl ⟨a, us, rfl, .inr (.inl h), flat_rep rx c.1, flats_rep l1 c.2, ?_⟩)
        rw [inV_rep rx c.1 l1 c.2]
        exact q ρ _ H .refl g rfl
      · exact q.elim
    · split at q
      · rename_i c ec
        have e1 := str_one ec
        subst e1
        exact .inr (.inr ⟨c, _, rx, ry, q ρ _ H .refl g rfl⟩)
      · exact q.elim
    · exact q.elim
theorem k_notIn : OpK (gm X) (opIn true) (fun x y H Q => rNotInD X.K x y H Q ∨ (fun x y H Q => rIn X.K true x y H Q ∨ (∃ (c : Nat) (z : Str), x = .str ⟨#[c]⟩ ∧ y = .str z ∧ Q (.bl (!decide (c ∈ z.cps.toList))) H)) x y H Q) := fun ρ M H x y v w Q E g rx ry q => by
  unfold opIn at q
  split at q
  · rename_i l el
    split at q
    · rename_i c
      exact .inl ⟨_, _, dp_pyOf g rx (canLay_of_shaped c.1), rdL_py g ry el (canLay_of_shaped c.2), c.1, c.2, q ρ _ H .refl g rfl⟩
    · exact q.elim
  · split at q
    · rename_i d l
      split at q
      · rename_i c
        obtain ⟨a, us, rfl, h, n, l1⟩ := ry
        refine .inr (.inl ⟨a, us, rfl, .inr (.inl h), flat_rep rx c.1, flats_rep l1 c.2, ?_⟩)
        rw [inV_rep rx c.1 l1 c.2]
        exact q ρ _ H .refl g rfl
      · exact q.elim
    · split at q
      · rename_i c ec
        have e1 := str_one ec
        subst e1
        exact .inr (.inr ⟨c, _, rx, ry, q ρ _ H .refl g rfl⟩)
      · exact q.elim
    · exact q.elim
theorem room65 (hr : Rm (k + 1) X.A) : X.A.units + 65 < cLine := by have := hr.un; omega
theorem vc_in (hr : Rm (k + 1) X.A) (ha : VE X W a f) (hb : VE X W b g) : VC X W .In a b (fOp (opIn false) f g) := vc_op (OpR.or (op_inD (room65 hr)) (OpR.or op_in_seq op_in_sign)) k_in ha hb
theorem vc_notIn (hr : Rm (k + 1) X.A) (ha : VE X W a f) (hb : VE X W b g) : VC X W .NotIn a b (fOp (opIn true) f g) := vc_op (OpR.or (op_notInD (room65 hr)) (OpR.or op_notIn_seq op_notIn_sign)) k_notIn ha hb
/-- keys of dicts -/
def keyOf : Val → Option Key
  | .d (.int i) => some (.inl i)
  | .d (.str x) => some (.inr x)
  | _ => none
def kD : Key → D
  | .inl i => .int i
  | .inr x => .str x
theorem keyOf_rep {mg : Mg} {ρ : Rho} {M : Mem} {H : Hp} {u : V} {v : Val} {key : Key} (r : RepV mg ρ M H u v) (e : keyOf v = some key) : u = kV key := by
  unfold keyOf at e
  split at e
  · cases e; cases r; rfl
  · cases e; cases r; rfl
  · cases e
def lookK (ps : List (Key × D)) (key : Key) : Option D := match ps with
  | [] => none
  | (k', d) :: r => if k' = key then some d else lookK r key
theorem valV_rep {mg : Mg} {S : Addr → Prop} {H : Hp} {key : Key} : ∀ {ps : List (Key × D)} {us : List (Key × V)}, RepP mg S H us ps → match lookK ps key with
    | some d => ∃ v, valV us key = some v ∧ Rep mg S H v d
    | none => valV us key = none
  | [], _, r => by cases r; rfl
  | (k', d) :: ps, _, r => by
    obtain ⟨u, ws, rfl, h1, h2⟩ := r
    unfold lookK
    by_cases e : k' = key
    · rw [if_pos e]
      exact ⟨u, valV_pos e, h1⟩
    · rw [if_neg e]
      have ih := valV_rep (key := key) h2
      revert ih
      cases lookK ps key with
      | none => exact fun ih => (valV_neg e).trans ih
      | some d2 => exact fun ⟨v, a, b⟩ => ⟨v, (valV_neg e).trans a, b⟩
def opInD (neg : Bool) (v w : Val) (M : Mem) : R Val := match rdD M w, keyOf v with
  | some ps, some key => inRes neg (lookK ps key).isSome M
  | _, _ => .bad
theorem vc_inD (hr : Rm k X.A) (ha : VE X W a f) (hb : VE X W b g) : VC X W .In a b (fOp (opInD false) f g) := pc_imp (pc_din (by have := hr.units; omega) ha hb) fun σ H Q hh => by
  refine lift_bind hh fun ρ env M H1 u v es rv q => ⟨ρ, env, M, es, (Kont.bind q).mono (fun u2 H2 hq => ?_) fun _ _ _ z => z⟩
  obtain ⟨ρ2, M2, w, s2, g2, rw', q2⟩ := hq
  unfold opInD at q2
  split at q2
  · rename_i ps key ep ek
    obtain ⟨a, us, rfl, h, l⟩ := rdD_rep g2 rw' ep
    refine ⟨a, valV us key, rfl, .inl ⟨us, key, h, keyOf_rep (rv.step s2) ek, rfl⟩, ?_⟩
    have := valV_rep (key := key) l
    revert this q2
    cases lookK ps key with
    | none => intro q2 e; rw [e]; exact q2 ρ2 _ H2 .refl g2 rfl
    | some d => intro q2 ⟨v, e, _⟩; rw [e]; exact q2 ρ2 _ H2 .refl g2 rfl
  · exact q2.elim
theorem vc_notInD (hr : Rm k X.A) (ha : VE X W a f) (hb : VE X W b g) : VC X W .NotIn a b (fOp (opInD true) f g) := pc_imp (pc_dnotin (by have := hr.units; omega) ha hb) fun σ H Q hh => by
  refine lift_bind hh fun ρ env M H1 u v es rv q => ⟨ρ, env, M, es, (Kont.bind q).mono (fun u2 H2 hq => ?_) fun _ _ _ z => z⟩
  obtain ⟨ρ2, M2, w, s2, g2, rw', q2⟩ := hq
  unfold opInD at q2
  split at q2
  · rename_i ps key ep ek
    obtain ⟨a, us, rfl, h, l⟩ := rdD_rep g2 rw' ep
    refine ⟨a, valV us key, rfl, .inl ⟨us, key, h, keyOf_rep (rv.step s2) ek, rfl⟩, ?_⟩
    have := valV_rep (key := key) l
    revert this q2
    cases lookK ps key with
    | none => intro q2 e; rw [e]; exact q2 ρ2 _ H2 .refl g2 rfl
    | some d => intro q2 ⟨v, e, _⟩; rw [e]; exact q2 ρ2 _ H2 .refl g2 rfl
  · exact q2.elim

/-! ### subscripts -/
def opIx (v w : Val) (M : Mem) : R Val := match w with
  | .d (.int i) => match v with
    | .d (.str z) => if z.length ≤ big then (match atI z.cps.toList i with
      | some c => .ok (.d (.str ⟨#[c]⟩)) M
      | none => .bad) else .bad
    | v => match rdS M v with
      | some l => (match atI l i with
        | some x => .ok (.d x) M
        | none => .bad)
      | none => .bad
  | _ => .bad
theorem atI_rep {mg : Mg} {S : Addr → Prop} {H : Hp} {l : List D} {us : List V} {i : Int} {x : D} (r : RepL mg S H us l) (e : atI l i = some x) : ∃ u, atI us i = some u ∧ Rep mg S H u x := by
  unfold atI at e ⊢
  rw [RepL.length r]
  cases hi : ixN l.length i with
  | none => rw [hi] at e; cases e
  | some j =>
    rw [hi] at e
    exact r.get e
theorem k_ix : OpK (gm X) opIx (rIx X.K) := fun ρ M H x y v w Q E g rx ry q => by
  unfold opIx at q
  split at q
  · rename_i i
    split at q
    · rename_i z
      split at q
      · rename_i hl
        split at q
        · rename_i c ec
          exact .inr (.inr ⟨z, i, c, rx, ry, big_le hl, ec, q ρ _ H .refl g rfl⟩)
        · exact q.elim
      · exact q.elim
    · split at q
      · rename_i l el
        split at q
        · rename_i d ed
          obtain ⟨a, us, e1, h, l1⟩ := rdS_rep g rx el
          obtain ⟨u, eu, ru⟩ := atI_rep l1 ed
          rcases h with h | h
          · exact .inl ⟨a, us, i, u, e1, ry, h, eu, q ρ _ H .refl g ru⟩
          · exact .inr (.inl ⟨a, us, i, u, e1, ry, h, eu, q ρ _ H .refl g ru⟩)
        · exact q.elim
      · exact q.elim
  · exact q.elim
theorem ve_sub1 (ha : VE X W a f) (hb : VE X W b g) (hs : PlainIx b := by exact fun _ _ => rfl) : VE X W (.Subscript a b pos) (fOp opIx f g) := ve_ix (hs := hs) ix_seq k_ix ha hb
/-- d[key] -/
def opIxD (v w : Val) (M : Mem) : R Val := match rdD M v, keyOf w with
  | some ps, some key => (match lookK ps key with
    | some d => .ok (.d d) M
    | none => .bad)
  | _, _ => .bad
theorem ve_subD (hr : Rm k X.A) (ha : VE X W a f) (hb : VE X W b g) (hs : NoSl b := by exact fun _ _ => rfl) : VE X W (.Subscript a b pos) (fOp opIxD f g) := pe_imp (pe_dget (by have := hr.units; omega) ha hb hs) fun σ H Q hh => by
  refine lift_bind hh fun ρ env M H1 u v es rv q => ⟨ρ, env, M, es, (Kont.bind q).mono (fun u2 H2 hq => ?_) fun _ _ _ z => z⟩
  obtain ⟨ρ2, M2, w, s2, g2, rw', q2⟩ := hq
  unfold opIxD at q2
  split at q2
  · rename_i ps key ep ek
    obtain ⟨a, us, rfl, h, l⟩ := rdD_rep g2 (rv.step s2) ep
    have := valV_rep (key := key) l
    revert this q2
    cases lookK ps key with
    | none => exact fun q2 _ => q2.elim
    | some d => exact fun q2 ⟨v, e, rv⟩ => ⟨a, v, rfl, .inl ⟨us, key, h, keyOf_rep rw' ek, e.symm⟩, q2 ρ2 _ H2 .refl g2 rv⟩
  · exact q2.elim

/-! ### slices -/
def cutD {α : Type} (xs : List α) (lo hi : Option Int) : List α := (xs.drop (HT.sIx xs.length 0 lo)).take (HT.sIx xs.length xs.length hi - HT.sIx xs.length 0 lo)
theorem cut_rep {mg : Mg} {S : Addr → Prop} {H : Hp} {l : List D} {us : List V} {lo hi : Option Int} (r : RepL mg S H us l) : RepL mg S H (cutV us lo hi) (cutD l lo hi) := by
  unfold cutV cutD
  rw [RepL.length r]
  exact RepL.take _ (RepL.drop _ r)
def opCut (v : Val) (lo hi : Option Int) (M : Mem) : R Val := match v with
  | .d (.tup l) => .ok (.d (.tup (cutD l lo hi))) M
  | .d (.str z) => if z.length ≤ big then .ok (.d (.str (cutS z lo hi))) M else .bad
  | v => match rdL M v with
    | some l => .ok (.d (.lst (cutD l lo hi))) M
    | none => .bad
def fCutHi (f g : EF) : EF := fun e M => rbind (f e M) fun v M1 => rbind (g e M1) fun w M2 => match w with
  | .d (.int i) => opCut v none (some i) M2
  | _ => .bad
def fCutLo (f g : EF) : EF := fun e M => rbind (f e M) fun v M1 => rbind (g e M1) fun w M2 => match w with
  | .d (.int i) => opCut v (some i) none M2
  | _ => .bad
theorem cut_full {l : List D} {lo hi : Option Int} (h : HT.sIx l.length 0 lo = 0 ∧ HT.sIx l.length l.length hi = l.length) : cutD l lo hi = l := by
  unfold cutD
  rw [h.1, h.2]
  simp
theorem opCut_ok {ρ : Rho} {M : Mem} {H : Hp} {x : V} {v : Val} {lo hi : Option Int} {Q : VK} {E : XK} (g : Gs (gm X) ρ M H) (rx : RepV (gm X) ρ M H x v) (q : Kont (gm X) ρ M H (opCut v lo hi M) Q E) :
    rSlA X.K x lo hi H Q ∨ rSlS x lo hi H Q ∨ rSlL X.K x lo hi H Q := by
  unfold opCut at q
  split at q
  · rename_i l
    obtain ⟨a, us, rfl, h, n, l1⟩ := id rx
    have e1 := RepL.length l1
    refine .inl ⟨a, us, rfl, .inl h, fun z => ?_, fun _ => kont_tup g (cut_rep l1) q⟩
    rw [e1] at z
    rw [cut_full z] at q
    exact q ρ _ H .refl g rx
  · split at q
    · rename_i hl
      exact .inr (.inl ⟨_, rx, big_le hl, q ρ _ H .refl g rfl⟩)
    · exact q.elim
  · split at q
    · rename_i l el
      obtain ⟨a, us, rfl, h, l1⟩ := rdL_rep g rx el
      exact .inr (.inr ⟨a, us, rfl, h, kont_lst g (cut_rep l1) q⟩)
    · exact q.elim
abbrev slAll (X : Cx) : SlR X (fun x lo hi H Q => rSlA X.K x lo hi H Q ∨ (fun x lo hi H Q => rSlS x lo hi H Q ∨ rSlL X.K x lo hi H Q) x lo hi H Q) := SlR.or sl_tupA (SlR.or sl_str sl_list)
theorem ve_cutHi {p2 : Pos} (ha : VE X W a f) (hb : VE X W b g) : VE X W (.Subscript a (.Slice none (some b) none p2) pos) (fCutHi f g) := pe_imp (pe_slice (slAll X) ha po_none (po_some hb)) fun σ H Q hh => by
  refine lift_bind hh fun ρ env M H1 u v es rv q => ⟨ρ, env, M, es, (Kont.bind q).mono (fun u2 H2 hq => ?_) fun _ _ _ z => z⟩
  obtain ⟨ρ2, M2, w, s2, g2, rw', q2⟩ := hq
  split at q2
  · exact ⟨_, rw', opCut_ok g2 (rv.step s2) q2⟩
  · exact q2.elim
theorem ve_cutLo {p2 : Pos} (ha : VE X W a f) (hb : VE X W b g) : VE X W (.Subscript a (.Slice (some b) none none p2) pos) (fCutLo f g) := pe_imp (pe_slice (slAll X) ha (po_some hb) po_none) fun σ H Q hh => by
  refine lift_bind hh fun ρ env M H1 u v es rv q => ⟨ρ, env, M, es, (Kont.bind q).mono (fun u2 H2 hq => ?_) fun _ _ _ z => z⟩
  obtain ⟨ρ2, M2, w, s2, g2, rw', q2⟩ := hq
  split at q2
  · exact ⟨_, rw', opCut_ok g2 (rv.step s2) q2⟩
  · exact q2.elim
def fRev (f : EF) : EF := fun e M => rbind (f e M) fun v M1 => match rdL M1 v with
  | some l => .ok (.d (.lst l.reverse)) M1
  | none => .bad
theorem ve_rev {k : Nat} {p1 p2 p3 : Pos} (ha : VE X W a f) : VE X W (.Subscript a (.Slice none none (some (.UnaryOp .USub (.Constant (.int 1) k p1) p2)) p3) pos) (fRev f) := pe_imp (pe_revL ha) fun σ H Q hh => by
  refine lift_bind hh fun ρ env M H1 u v es rv q => ?_
  split at q
  · rename_i l el
    obtain ⟨a, us, rfl, h, l1⟩ := rdL_rep es.gs rv el
    exact ⟨a, us, rfl, h, kont_lst es.gs (RepL.reverse l1) q⟩
  · exact q.elim
end
end Vl
set_option Elab.async false
set_option linter.all false
set_option maxRecDepth 100000
/-! Vl6: statements. -/
namespace Vl
open PySem PySem.Spec PyProof.Rows L2

inductive O where
  | nx (e : En) (M : Mem) | rt (v : Val) (M : Mem) | bk (e : En) (M : Mem) | ct (e : En) (M : Mem) | er (x : Exn) (e : En) (M : Mem) | bad
abbrev SF := En → Mem → O
def KontS (mg : Mg) (ρ : Rho) (M : Mem) (H : Hp) (o : O) (D : Ends) (W : WX) : Prop := match o with
  | .nx e' M' => ∀ ρ' σ' H', Stp ρ M H ρ' M' H' → Es mg ρ' e' M' σ' H' → D.nx σ' H'
  | .rt v M' => ∀ ρ' u H', Stp ρ M H ρ' M' H' → Gs mg ρ' M' H' → RepV mg ρ' M' H' u v → D.rt u H'
  | .bk e' M' => ∀ ρ' σ' H', Stp ρ M H ρ' M' H' → Es mg ρ' e' M' σ' H' → D.bk σ' H'
  | .ct e' M' => ∀ ρ' σ' H', Stp ρ M H ρ' M' H' → Es mg ρ' e' M' σ' H' → D.ct σ' H'
  | .er x e' M' => ∀ ρ' σ' cls d H', Stp ρ M H ρ' M' H' → Es mg ρ' e' M' σ' H' → RepX mg ρ' M' H' cls d x → W cls d σ' H'
  | .bad => False
def liftS (mg : Mg) (W : WX) (f : SF) : TS := fun D σ H => ∃ ρ env M, Es mg ρ env M σ H ∧ KontS mg ρ M H (f env M) D W
def VS (X : Cx) (W : WX) (st : Stmt) (f : SF) : Prop := PS X st (liftS (gm X) W f)
def VSs (X : Cx) (W : WX) (st : List Stmt) (f : SF) : Prop := PSs X st (liftS (gm X) W f)
section
variable {mg : Mg} {ρ ρ' : Rho} {M M' : Mem} {H H' : Hp} {D D' : Ends} {W W' : WX}
theorem KontS.from {o : O} (s : Stp ρ M H ρ' M' H') (h : KontS mg ρ M H o D W) : KontS mg ρ' M' H' o D W := by
  cases o with
  | nx v M2 => exact fun ρ2 u H2 s2 g => h ρ2 u H2 (s.trans s2) g
  | rt v M2 => exact fun ρ2 u H2 s2 g => h ρ2 u H2 (s.trans s2) g
  | bk v M2 => exact fun ρ2 u H2 s2 g => h ρ2 u H2 (s.trans s2) g
  | ct v M2 => exact fun ρ2 u H2 s2 g => h ρ2 u H2 (s.trans s2) g
  | er x e M2 => exact fun ρ2 c d q H2 s2 g r => h ρ2 c d q H2 (s.trans s2) g r
  | bad => exact h
/-- a value, then a statement's end -/
theorem Kont.toS {r : R Val} {k : Val → Mem → O} {e : En} {σ : L2.St} (es : Es mg ρ e M σ H) (h : KontS mg ρ M H (match r with | .ok v M' => k v M' | .err x M' => .er x e M' | .bad => .bad) D W) :
    Kont mg ρ M H r (fun u H1 => ∃ ρ1 M1 v, Stp ρ M H ρ1 M1 H1 ∧ Es mg ρ1 e M1 σ H1 ∧ RepV mg ρ1 M1 H1 u v ∧ KontS mg ρ1 M1 H1 (k v M1) D W) (fun c d H' => W c d σ H') := by
  cases r with
  | ok v M2 => exact fun ρ2 u H2 s2 g rv => ⟨ρ2, M2, v, s2, es.step s2 g, rv, h.from s2⟩
  | err x M2 => exact fun ρ2 c d H2 s2 g rx => h ρ2 σ c d H2 s2 (es.step s2 g) rx
  | bad => exact h
theorem Kontb.toS {r : R Bool} {k : Bool → Mem → O} {e : En} {σ : L2.St} (es : Es mg ρ e M σ H) (h : KontS mg ρ M H (match r with | .ok v M' => k v M' | .err x M' => .er x e M' | .bad => .bad) D W) :
    Kontb mg ρ M H r (fun b H1 => ∃ ρ1 M1, Stp ρ M H ρ1 M1 H1 ∧ Es mg ρ1 e M1 σ H1 ∧ KontS mg ρ1 M1 H1 (k b M1) D W) (fun c d H' => W c d σ H') := by
  cases r with
  | ok v M2 => exact fun ρ2 H2 s2 g => ⟨ρ2, M2, s2, es.step s2 g, h.from s2⟩
  | err x M2 => exact fun ρ2 c d H2 s2 g rx => h ρ2 σ c d H2 s2 (es.step s2 g) rx
  | bad => exact h
theorem Konts.toS {r : R (List Val)} {k : List Val → Mem → O} {e : En} {σ : L2.St} (es : Es mg ρ e M σ H) (h : KontS mg ρ M H (match r with | .ok v M' => k v M' | .err x M' => .er x e M' | .bad => .bad) D W) :
    Konts mg ρ M H r (fun u H1 => ∃ ρ1 M1 v, Stp ρ M H ρ1 M1 H1 ∧ Es mg ρ1 e M1 σ H1 ∧ RepVs mg ρ1 M1 H1 u v ∧ KontS mg ρ1 M1 H1 (k v M1) D W) (fun c d H' => W c d σ H') := by
  cases r with
  | ok v M2 => exact fun ρ2 u H2 s2 g rv => ⟨ρ2, M2, v, s2, es.step s2 g, rv, h.from s2⟩
  | err x M2 => exact fun ρ2 c d H2 s2 g rx => h ρ2 σ c d H2 s2 (es.step s2 g) rx
  | bad => exact h
theorem Es.set {e : En} {σ : L2.St} {i : Nat} {u : V} {v : Val} (es : Es mg ρ e M σ H) (r : RepV mg ρ M H u v) : Es mg ρ (e.set i (some v)) M (σ.set i (some u)) H := by
  refine ⟨es.gs, fun j w h => ?_, by simp [es.len]⟩
  by_cases z : i = j
  · subst z
    have hl : i < (e.set i (some v)).length := (List.getElem?_eq_some_iff.mp h).1
    rw [List.length_set] at hl
    rw [List.getElem?_set_self hl] at h
    cases h
    exact ⟨u, List.getElem?_set_self (by rw [← es.len]; exact hl), r⟩
  · rw [List.getElem?_set_ne z] at h
    obtain ⟨u', a, b⟩ := es.sl j w h
    exact ⟨u', by rw [List.getElem?_set_ne z]; exact a, b⟩
theorem Es.unset {e : En} {σ : L2.St} {i : Nat} (es : Es mg ρ e M σ H) : Es mg ρ (e.set i none) M (σ.set i none) H := by
  refine ⟨es.gs, fun j w h => ?_, by simp [es.len]⟩
  by_cases z : i = j
  · subst z
    have hl : i < (e.set i none).length := (List.getElem?_eq_some_iff.mp h).1
    rw [List.length_set] at hl
    rw [List.getElem?_set_self hl] at h
    cases h
  · rw [List.getElem?_set_ne z] at h
    obtain ⟨u', a, b⟩ := es.sl j w h
    exact ⟨u', by rw [List.getElem?_set_ne z]; exact a, b⟩
end
def rO (r : R Val) (e : En) (k : Val → Mem → O) : O := match r with | .ok v M' => k v M' | .err x M' => .er x e M' | .bad => .bad
def rOb (r : R Bool) (e : En) (k : Bool → Mem → O) : O := match r with | .ok v M' => k v M' | .err x M' => .er x e M' | .bad => .bad
def rOs (r : R (List Val)) (e : En) (k : List Val → Mem → O) : O := match r with | .ok v M' => k v M' | .err x M' => .er x e M' | .bad => .bad
@[simp] theorem rO_ok (v : Val) (M : Mem) (e : En) (k : Val → Mem → O) : rO (.ok v M) e k = k v M := rfl
@[simp] theorem rO_err (x : Exn) (M : Mem) (e : En) (k : Val → Mem → O) : rO (.err x M) e k = .er x e M := rfl
@[simp] theorem rO_bad (e : En) (k : Val → Mem → O) : rO .bad e k = .bad := rfl
@[simp] theorem rOb_ok (v : Bool) (M : Mem) (e : En) (k : Bool → Mem → O) : rOb (.ok v M) e k = k v M := rfl
@[simp] theorem rOb_err (x : Exn) (M : Mem) (e : En) (k : Bool → Mem → O) : rOb (.err x M) e k = .er x e M := rfl
@[simp] theorem rOb_bad (e : En) (k : Bool → Mem → O) : rOb .bad e k = .bad := rfl
@[simp] theorem rOs_ok (v : List Val) (M : Mem) (e : En) (k : List Val → Mem → O) : rOs (.ok v M) e k = k v M := rfl
@[simp] theorem rOs_err (x : Exn) (M : Mem) (e : En) (k : List Val → Mem → O) : rOs (.err x M) e k = .er x e M := rfl
@[simp] theorem rOs_bad (e : En) (k : List Val → Mem → O) : rOs .bad e k = .bad := rfl

section
variable {X : Cx} {W : WX} {e a b c : Expr} {es rest : List Expr} {f g h : EF} {p q : BF} {pos : Pos} {st : Stmt} {sts : List Stmt} {F G : SF}
theorem liftS_bind {k : En → Val → Mem → O} {mg : Mg} {D : Ends} {σ : L2.St} {H : Hp} {Q : VK} (h : liftS mg W (fun e M => rO (f e M) e (k e)) D σ H)
    (hk : ∀ ρ env M H1 u v, Es mg ρ env M σ H1 → RepV mg ρ M H1 u v → KontS mg ρ M H1 (k env v M) D W → Q u H1) : lift mg W f σ H Q := by
  obtain ⟨ρ, env, M, es, h⟩ := h
  exact ⟨ρ, env, M, es, (Kont.toS es h).mono (fun u H1 ⟨ρ1, M1, v, s, es1, r, q⟩ => hk ρ1 env M1 H1 u v es1 r q) fun _ _ _ z => z⟩
/-! ### blocks, small statements -/
def sNil : SF := fun e M => .nx e M
def sSeq (F G : SF) : SF := fun e M => match F e M with
  | .nx e' M' => G e' M'
  | o => o
theorem vss_nil : VSs X W [] sNil := pss_imp pss_nil fun D σ H ⟨ρ, env, M, es, h⟩ => h ρ σ H .refl es
theorem vss_cons (hs : VS X W st F) (hr : VSs X W sts G) : VSs X W (st :: sts) (sSeq F G) := pss_imp (pss_cons hs hr) fun D σ H ⟨ρ, env, M, es, h⟩ => by
  refine ⟨ρ, env, M, es, ?_⟩
  unfold sSeq at h
  revert h
  cases F env M with
  | nx e1 M1 => exact fun h ρ1 σ1 H1 s1 es1 => ⟨ρ1, e1, M1, es1, h.from s1⟩
  | rt v M1 => exact fun h => h
  | bk e1 M1 => exact fun h => h
  | ct e1 M1 => exact fun h => h
  | er x e1 M1 => exact fun h => h
  | bad => exact fun h => h
theorem vss_one (hs : VS X W st F) : VSs X W [st] F := pss_one hs
def sBrk : SF := fun e M => .bk e M
def sCont : SF := fun e M => .ct e M
theorem vs_pass : VS X W (.Pass pos) sNil := ps_imp ps_pass fun D σ H ⟨ρ, env, M, es, h⟩ => h ρ σ H .refl es
theorem vs_break : VS X W (.Break pos) sBrk := ps_imp ps_break fun D σ H ⟨ρ, env, M, es, h⟩ => h ρ σ H .refl es
theorem vs_continue : VS X W (.Continue pos) sCont := ps_imp ps_continue fun D σ H ⟨ρ, env, M, es, h⟩ => h ρ σ H .refl es
def sExpr (f : EF) : SF := fun e M => rO (f e M) e fun _ M1 => .nx e M1
theorem vs_expr (he : VE X W e f) (hs : swapsWith e none pos.line X.env = pure false := by rfl) : VS X W (.Expr e pos) (sExpr f) := ps_imp (ps_expr he hs) fun D σ H h =>
  liftS_bind h fun ρ env M H1 u v es rv q => q ρ σ H1 .refl es
def sRet (f : EF) : SF := fun e M => rO (f e M) e fun v M1 => .rt v M1
theorem vs_ret (he : VE X W e f) : VS X W (.Return (some e) pos) (sRet f) := ps_imp (ps_ret he) fun D σ H h =>
  liftS_bind h fun ρ env M H1 u v es rv q => q ρ u H1 .refl es.gs rv
def sRetN : SF := fun _ M => .rt (.d .non) M
theorem vs_retN : VS X W (.Return none pos) sRetN := ps_imp ps_retN fun D σ H ⟨ρ, env, M, es, h⟩ => h ρ .non H .refl es.gs rfl
def sIf (p : BF) (F G : SF) : SF := fun e M => rOb (p e M) e fun b M1 => if b = true then F e M1 else G e M1
theorem vs_if {xs ys : List Stmt} (hc : VT X W c p) (ha : VSs X W xs F) (hb : VSs X W ys G) : VS X W (.If c xs ys pos) (sIf p F G) := ps_imp (ps_if hc ha hb) fun D σ H ⟨ρ, env, M, es, h⟩ => by
  refine ⟨ρ, env, M, es, (Kontb.toS es h).mono (fun u H1 ⟨ρ1, M1, s1, es1, q⟩ => ?_) fun _ _ _ z => z⟩
  cases u with
  | true => exact ⟨ρ1, env, M1, es1, q⟩
  | false => exact ⟨ρ1, env, M1, es1, q⟩
/-- name = value -/
def sSet (i : Nat) (f : EF) : SF := fun e M => rO (f e M) e fun v M1 => .nx (e.set i (some v)) M1
theorem vs_set (i : Nat) {x : Str} {pos' : Pos} (he : VE X W e f) (hN : X.N.Nodup) (hi : X.N[i]? = some x := by rfl) (hx : Loc X.env.scope x := by first | exact .inl rfl | exact .inr rfl) (hs : swapsWith e (some (.Name x pos')) pos.line X.env = pure false := by rfl)
    (hf : X.fn x = true ∨ X.env.scope.names.lookup x = some .local := by first | exact .inl rfl | exact .inr rfl) : VS X W (.Assign [.Name x pos'] e pos) (sSet i f) := ps_imp (ps_set hN hi hx he hs hf) fun D σ H h =>
  liftS_bind h fun ρ env M H1 u v es rv q => q ρ _ H1 .refl (es.set rv)
/-- a, b = x, y -/
def sPar (i j : Nat) (fs : En → Mem → R (List Val)) : SF := fun e M => rOs (fs e M) e fun vs M1 => match vs with
  | [v, w] => .nx ((e.set i (some v)).set j (some w)) M1
  | _ => .bad
theorem vs_par (i j : Nat) {x y : Str} {px py pt : Pos} {kt k2 pt2} {fs : En → Mem → R (List Val)} (ha : VA X W [a, b] fs) (hc : X.calm = true) (hN : X.N.Nodup) (hi : X.N[i]? = some x := by rfl) (hj : X.N[j]? = some y := by rfl) (hij : i ≠ j := by decide)
    (hx : X.env.scope.names.lookup x = some .local := by rfl) (hy : X.env.scope.names.lookup y = some .local := by rfl)
    (hw : swappedStores [.Tuple [.Name x px, .Name y py] kt pt] (.Tuple [a, b] k2 pt2) X.env = pure (some [x, y]) := by rfl)
    (hs : swapsWithSole [.Tuple [.Name x px, .Name y py] kt pt] (.Tuple [a, b] k2 pt2) pos.line X.env = pure false := by rfl) :
    VS X W (.Assign [.Tuple [.Name x px, .Name y py] kt pt] (.Tuple [a, b] k2 pt2) pos) (sPar i j fs) := ps_imp (ps_par hc hN hi hj hij hx hy ha hw hs) fun D σ H ⟨ρ, env, M, es, h⟩ => by
  refine ⟨ρ, env, M, es, (Konts.toS es h).mono (fun u H1 ⟨ρ1, M1, v, s1, es1, r, q⟩ => ?_) fun _ _ _ z => z⟩
  split at q
  · rename_i v w
    obtain ⟨u1, r1, rfl, h1, u2, r2, rfl, h2, e2⟩ := r
    cases e2
    exact ⟨u1, u2, rfl, q ρ1 _ H1 .refl ((es1.set h1).set h2)⟩
  · exact q.elim
/-- a, b, c = x, y, z -/
def sPar3 (i j l : Nat) (fs : En → Mem → R (List Val)) : SF := fun e M => rOs (fs e M) e fun vs M1 => match vs with
  | [v, w, z] => .nx (((e.set i (some v)).set j (some w)).set l (some z)) M1
  | _ => .bad
/-! ### targets by data -/
/-- the slots at ix alone are stored -/
def Apart (ix : List Nat) (σ σ' : L2.St) : Prop := σ'.length = σ.length ∧ ∀ i, i ∉ ix → σ'[i]? = σ[i]?
theorem Apart.refl {ix : List Nat} {σ : L2.St} : Apart ix σ σ := ⟨rfl, fun _ _ => rfl⟩
def liftG (mg : Mg) (ix : List Nat) (t : D → En → Option En) : TG := fun v σ H Q => ∃ ρ env M d e', Es mg ρ env M σ H ∧ Rep mg (SM ρ M) H v d ∧ t d env = some e' ∧ ∀ σ', Apart ix σ σ' → Es mg ρ e' M σ' H → Q σ' H
def VG (X : Cx) (ix : List Nat) (tg : Expr) (t : D → En → Option En) : Prop := PG X tg (liftG (gm X) ix t)
theorem pg_imp {tg : Expr} {t t' : TG} (h : PG X tg t) (k : ∀ v σ H Q, t' v σ H Q → t v σ H Q) : PG X tg t' := ⟨fun pins s σ H v u Q I r q => h.run pins s σ H v u Q I r (k v σ H Q q)⟩
theorem PG.or {tg : Expr} {t t' : TG} (h : PG X tg t) (h' : PG X tg t') : PG X tg (fun v σ H Q => t v σ H Q ∨ t' v σ H Q) := ⟨fun pins s σ H v u Q I r q => q.elim (h.run pins s σ H v u Q I r) (h'.run pins s σ H v u Q I r)⟩
def tName (i : Nat) : D → En → Option En := fun d e => some (e.set i (some (.d d)))
theorem vg_name (i : Nat) {x : Str} (hN : X.N.Nodup) (hi : X.N[i]? = some x := by rfl) (hx : Loc X.env.scope x := by first | exact .inl rfl | exact .inr rfl) (hf : X.fn x = true ∨ X.env.scope.names.lookup x = some .local := by first | exact .inl rfl | exact .inr rfl) : VG X [i] (.Name x pos) (tName i) :=
  pg_imp (pg_name hN hi hx hf) fun v σ H Q ⟨ρ, env, M, d, e', es, r, et, q⟩ => by
    cases et
    exact q _ ⟨by simp, fun j hj => List.getElem?_set_ne (by intro z; exact hj (by simp [z]))⟩ (es.set (v := .d d) r)
def VGs (X : Cx) (ix : List Nat) (ts : List Expr) (t : List D → En → Option En) : Prop := PGs X ts (fun vs σ H Q => ∃ ρ env M ds e', Es (gm X) ρ env M σ H ∧ RepL (gm X) (SM ρ M) H vs ds ∧ t ds env = some e' ∧ ∀ σ', Apart ix σ σ' → Es (gm X) ρ e' M σ' H → Q σ' H)
theorem pgs_imp {tg : List Expr} {t t' : TGs} (h : PGs X tg t) (k : ∀ v σ H Q, t' v σ H Q → t v σ H Q) : PGs X tg t' := ⟨fun pins s σ H v u Q I r q => h.run pins s σ H v u Q I r (k v σ H Q q)⟩
def tNils : List D → En → Option En
  | [], e => some e
  | _, _ => none
def tCons2 (t : D → En → Option En) (ts : List D → En → Option En) : List D → En → Option En
  | d :: ds, e => (t d e).bind (ts ds)
  | _, _ => none
theorem vgs_nil : VGs X [] [] tNils := pgs_imp pgs_nil fun vs σ H Q ⟨ρ, env, M, ds, e', es, r, et, q⟩ => by
  cases ds with
  | nil => cases r; cases et; exact ⟨rfl, q _ .refl es⟩
  | cons _ _ => cases et
theorem vgs_cons {ia ib : List Nat} {t : D → En → Option En} {ts : List D → En → Option En} (ha : VG X ia e t) (hb : VGs X ib es ts) (hs : (assignEach (e :: es) X.env).map (·.2) = assign e X.env :: (assignEach es X.env).map (·.2) := by rfl) : VGs X (ia ++ ib) (e :: es) (tCons2 t ts) :=
  pgs_imp (pgs_cons ha hb hs) fun vs σ H Q ⟨ρ, env, M, ds, e', es, r, et, q⟩ => by
    cases ds with
    | nil => cases et
    | cons d ds =>
      obtain ⟨u, us, rfl, r1, r2⟩ := r
      simp only [tCons2, Option.bind_eq_some_iff] at et
      obtain ⟨e1, et1, et2⟩ := et
      exact ⟨u, us, rfl, ρ, env, M, d, e1, es, r1, et1, fun σ1 a1 es1 => ⟨ρ, e1, M, ds, e', es1, r2, et2, fun σ2 a2 es2 => q σ2 ⟨a2.1.trans a1.1, fun i hi => (a2.2 i fun z => hi (List.mem_append_right _ z)).trans (a1.2 i fun z => hi (List.mem_append_left _ z))⟩ es2⟩⟩
def tTup (n : Nat) (ts : List D → En → Option En) : D → En → Option En
  | .tup ds, e => if ds.length = n then ts ds e else none
  | .lst ds, e => if ds.length = n then ts ds e else none
  | _, _ => none
theorem vg_tup {k n : Nat} {ix : List Nat} {ts : List D → En → Option En} (hc : X.calm = true) (h : VGs X ix es ts) (hn : (assignEach es X.env).length = n := by rfl) (hst : (assignEach es X.env).findIdx? (·.1) = none := by rfl) : VG X ix (.Tuple es k pos) (tTup n ts) :=
  pg_imp (PG.or (pg_tup hc h hn hst) (pg_lst hc h hn hst)) fun v σ H Q ⟨ρ, env, M, d, e', es, r, et, q⟩ => by
    unfold tTup at et
    split at et
    · split at et
      · rename_i hl
        obtain ⟨a, us, rfl, h, n, l1⟩ := r
        exact .inl ⟨a, us, rfl, .inl h, by rw [RepL.length l1]; exact hl, ρ, env, M, _, e', es, l1, et, q⟩
      · cases et
    · split at et
      · rename_i hl
        obtain ⟨a, us, rfl, h, n, l1⟩ := r
        exact .inr ⟨a, us, rfl, .inl (.inl h), by rw [RepL.length l1]; exact hl, ρ, env, M, _, e', es, l1, et, q⟩
      · cases et
    · cases et
/-- a, b = a value -/
def sUnp (t : D → En → Option En) (f : EF) : SF := fun e M => rO (f e M) e fun v M1 => match v with
  | .d x => (match t x e with
    | some e' => .nx e' M1
    | none => .bad)
  | _ => .bad
theorem vs_unp {tg : Expr} {ix : List Nat} {t : D → En → Option En} (he : VE X W e f) (hg : VG X ix tg t) (hs : swapsWithSole [tg] e pos.line X.env = pure false := by rfl) (hw : swappedStores [tg] e X.env = pure none := by rfl)
    (h1 : (assignEach [tg] X.env).map (·.2) = [assign tg X.env] := by rfl) : VS X W (.Assign [tg] e pos) (sUnp t f) := ps_imp (ps_asg he hg hs hw h1) fun D σ H h =>
  liftS_bind h fun ρ env M H1 u v es rv q => by
    split at q
    · rename_i x
      split at q
      · rename_i e' et
        exact ⟨ρ, env, M, x, e', es, rv, et, fun σ' _ es' => q ρ σ' H1 .refl es'⟩
      · exact q.elim
    · exact q.elim
/-! ### while, by fuel -/
def whileF (p : BF) (F : SF) : Nat → SF
  | 0 => fun _ _ => .bad
  | n + 1 => fun e M => rOb (p e M) e fun b M1 => if b = true then (match F e M1 with
      | .nx e' M' => whileF p F n e' M'
      | .ct e' M' => whileF p F n e' M'
      | .bk e' M' => .nx e' M'
      | o => o) else .nx e M1
theorem vs_while (n : Nat) (hp : PassesOwn (model X.prog X.w) X.A X.env X.xe) (hc : VT X W c p) (hb : VSs X W sts F) : VS X W (.While c sts [] pos) (whileF p F n) := ps_imp (ps_while hp hc hb) fun D σ H ⟨ρ, env, M, es, h⟩ => by
  refine ⟨fun m σ H => ∃ ρ env M, Es (gm X) ρ env M σ H ∧ KontS (gm X) ρ M H (whileF p F m env M) D W, ⟨n, ρ, env, M, es, h⟩, fun m σ1 H1 ⟨ρ1, env1, M1, es1, q1⟩ => ?_⟩
  cases m with
  | zero => exact q1.elim
  | succ m =>
    refine ⟨ρ1, env1, M1, es1, (Kontb.toS es1 q1).mono (fun u H2 ⟨ρ2, M2, s2, es2, q2⟩ => ?_) fun _ _ _ z => z⟩
    cases u with
    | false =>
      rw [if_neg Bool.false_ne_true]
      exact q2 ρ2 σ1 H2 .refl es2
    | true =>
      rw [if_pos rfl]
      refine ⟨fun σ' H' => ∃ ρ env M, Es (gm X) ρ env M σ' H' ∧ KontS (gm X) ρ M H' (whileF p F m env M) D W, fun σ' H' h' => ⟨m, Nat.lt_succ_self _, h'⟩, ρ2, env1, M2, es2, ?_⟩
      rw [if_pos rfl] at q2
      revert q2
      cases F env1 M2 with
      | nx e1 M3 => exact fun q2 ρ3 σ3 H3 s3 es3 => ⟨ρ3, e1, M3, es3, q2.from s3⟩
      | ct e1 M3 => exact fun q2 ρ3 σ3 H3 s3 es3 => ⟨ρ3, e1, M3, es3, q2.from s3⟩
      | bk e1 M3 => exact fun q2 => q2
      | rt v M3 => exact fun q2 => q2
      | er x e1 M3 => exact fun q2 => q2
      | bad => exact fun q2 => q2
end
end Vl
set_option Elab.async false
set_option linter.all false
set_option maxRecDepth 100000
/-! Vl7a: enumerate over a tuple. -/
namespace Vl
open PySem PySem.Spec PyProof.Rows L2
section
variable {X : Cx}
def enumT0 (l : Addr) (h : Heap) : Heap := h.push { cls := .type "tuple_iterator", data := .fields #[.ref l, .int 0 0] }
def enumT1 (l : Addr) (h : Heap) : Heap := (enumT0 l h).push { cls := .type "enumerate", data := .fields #[.none, .bool false, .ref h.objs.size, rawInt 0, .none, .none] }
theorem newEnumT (l : Addr) (items : Array Value) : Meets (Builtin.«enumerate.__new__» ⟨[.type "enumerate", .ref l], []⟩) (fun _ R s => s.heap.IsTuple l items ∧ R (.ok (.ret (.ref (enumT0 l s.heap).objs.size))) { s with heap := enumT1 l s.heap }) :=
  .of_wp fun prog w A R s hh => by
    obtain ⟨hp, g, d, tk, os⟩ := s
    obtain ⟨hl, hh⟩ := hh
    have hsub := sub_enumerate
    have go : ∀ {B : Around} {E : Value → Shared → Prop} {Q : Value → Shared → Prop}, Q (.ref hp.objs.size) ⟨enumT0 l hp, g, d, tk, os⟩ → wpAny (model prog w) B (pyIter (.ref l)) Q E ⟨hp, g, d, tk, os⟩ := fun q => wpAny_pyIter_tuple (s := ⟨hp, g, d, tk, os⟩) hl q
    wp_walk using go
    refine wpAny_stack_any fun st0 => wpAny_pure ?_
    split
    · rename_i c0 _ _ _ _ _
      cases (c0 == Value.type "enumerate") <;> (wp_walk using go; exact ⟨_, rfl, hh⟩)
    · wp_walk using go
      exact ⟨_, rfl, hh⟩
theorem callEnumT {prog : Program} {w : World} {A : Around} {E : Value → Shared → Prop} {s : Shared} {l : Addr} {items : Array Value} {Q : Value → Shared → Prop} (hT : s.heap.IsTuple l items)
    (k : ∀ h', IsEnum h' (s.heap.objs.size + 1) s.heap.objs.size 0 .none → h'.IsTupleIter s.heap.objs.size l 0 → h'.objs.size = s.heap.objs.size + 2 →
      (∀ b o, s.heap.get? b = some o → h'.get? b = some o) → Q (.ref (s.heap.objs.size + 1)) { s with heap := h' }) : wpAny (model prog w) A (call (.type "enumerate") [.ref l]) Q E s := by
  refine callType_new F.called_enumerate (by decide) (F.typeCall_enumerate_1 _) (F.newCall_enumerate_1 _) (fun ob => F.args_object_init_2 ob _) F.entry_enumerate_new (newEnumT l items) ⟨hT, ?_⟩
  have hz : (enumT0 l s.heap).objs.size = s.heap.objs.size + 1 := Heap.size_push ..
  show _ ∧ _
  rw [hz]
  have e1 : IsEnum (enumT1 l s.heap) (s.heap.objs.size + 1) s.heap.objs.size 0 .none := by
    have q := Heap.get?_push_size (enumT0 l s.heap) (o := { cls := .type "enumerate", data := .fields #[.none, .bool false, .ref s.heap.objs.size, rawInt 0, .none, .none] }) rfl
    rw [hz] at q
    exact q
  refine ⟨⟨_, e1, rfl⟩, k _ e1 ⟨_, Heap.get?_push_of_some _ (Heap.get?_push_size _ rfl), rfl, rfl⟩ ?_ fun b o z => Heap.get?_push_of_some _ (Heap.get?_push_of_some _ z)⟩
  unfold enumT1
  rw [Heap.size_push, hz]
/-- the tuple at a, each item in a new pair -/
def ItET (K : PySem.W.Frag) (a : Addr) : It where
  go := fun i H => ∃ (us : List V) (x : V), SqT K H a us ∧ us[i]? = some x
  yld := fun i H v H' => ∃ T x, v = .ref T ∧ H T = none ∧ H' = upd H T (.tup [.int (i : Nat), x]) ∧ ∀ us, SqT K H a us → us[i]? = some x
  stop := fun i H => ∃ us : List V, SqT K H a us ∧ us.length = i
theorem turnET {P : Program} {w : World} {K : PySem.W.Frag} {elts : List Expr} {kk : Nat} {tpos : Pos} (a e it : Addr) (ha : a ≠ it) (hea : e ≠ a) :
    Turn P w K (.Tuple elts kk tpos) (ItET K a) [e, it] e (fun i h => (∃ old, IsEnum h e it ((i : Nat) : Int) old) ∧ h.IsTupleIter it a i ∧ e ≠ it) where
  mem := by simp
  obj := fun i h ⟨⟨old, he⟩, ⟨o, ho, hc, hd⟩, _⟩ b hb => by
    rcases (show b = e ∨ b = it by simpa using hb) with z | z
    · subst z; exact ⟨_, he, fun v q => nomatch q⟩
    · subst z; exact ⟨o, ho, fun v q => by rw [hd] at q; cases q⟩
  keep := fun i h h' ⟨⟨old, he⟩, hi, hne⟩ k => ⟨⟨old, k e (by simp) _ he⟩, hi.at fun o q => k it (by simp) o q, hne⟩
  item := by
    intro X hP hw hK hc i pins s σ H E I hf st hg
    subst hP hw hK
    obtain ⟨⟨old, he⟩, hit, hne⟩ := st
    obtain ⟨us, x, hq, hx⟩ := hg
    obtain ⟨its, rv, p, hz⟩ := I.tuple hq
    obtain ⟨u, hu, ru⟩ := rv.get hx
    have hel : e < s.heap.objs.size := Heap.lt_size he
    have hil : it < s.heap.objs.size := by obtain ⟨_, q, _⟩ := hit; exact Heap.lt_size q
    have hlt : i < its.toArray.size := by simpa using (List.getElem?_eq_some_iff.mp hu).1
    refine wpAny_pyNext_enum_itemD (Draws.tuple (prog := X.prog) (w := X.w) (A := X.A.in1) (I.ok.hd hc) it a ha its.toArray) he ⟨hit, p⟩ hlt hne (by simp; exact ⟨hne, hea⟩) fun x1 h' tk hP1 ho hst hT hsz hk => ?_
    have ex : x1 = u := by
      have q : its.toArray[i]? = some u := by simpa using hu
      exact Option.some.inj (hP1.symm.trans q)
    subst ex
    refine ⟨_, rfl, wpAny_letOwnedTupleGo_enum (s := { s with heap := h', toks := tk + 1 }) ho fun h2 he2 sb => ?_⟩
    have hT2 : h2.get? s.heap.objs.size = some { cls := .type "tuple", data := .seq #[.int i tk, x1] } := (sb.2 _ (Nat.ne_of_gt hel)).trans hT
    have nw : ObjOk X.prog X.w (upd H s.heap.objs.size (.tup [.int (i : Nat), x])) h2 s.heap.objs.size (.tup [.int (i : Nat), x]) :=
      ⟨by show 2 ≤ sizeLine; decide, [.int i tk, x1], .cons ⟨_, rfl⟩ (.cons ru .nil), ⟨_, hT2, rfl, _, rfl⟩⟩
    have J : Inv X pins σ (upd H s.heap.objs.size (.tup [.int (i : Nat), x])) { s with heap := h2, toks := tk + 1 } :=
      I.turnedNew (ch := [e, it]) (fun b ob hb q => (sb.2 b (fun z => hb (by simp [z]))).trans (hk b ob (fun z => hb (by simp [z])) (fun z => hb (by simp [z])) q)) hf (Nat.le_refl _) nw
    refine ⟨.ref s.heap.objs.size, _, J, rfl, ⟨_, x, rfl, I.hok.fresh (Nat.le_refl _), rfl, fun ys hy => by rw [I.tuple_inj hy hq]; exact hx⟩, ⟨⟨x1, ?_⟩, hst.1.at fun o q => (sb.2 it (Ne.symm hne)).trans q, hne⟩, fun b hb => ?_⟩
    · rw [show ((i + 1 : Nat) : Int) = (i : Int) + 1 by omega]
      exact he2
    · have hb' : b < s.heap.objs.size := by
        rcases (show b = e ∨ b = it by simpa using hb) with z | z
        · rw [z]; exact hel
        · rw [z]; exact hil
      rw [upd_ne (Nat.ne_of_lt hb')]
      exact (hf b hb).1
  done := by
    intro X hP hw hK hc i pins s σ H E I hf st hg
    subst hP hw hK
    obtain ⟨⟨old, he⟩, hit, hne⟩ := st
    obtain ⟨us, hq, hx⟩ := hg
    obtain ⟨its, rv, p, hz⟩ := I.tuple hq
    obtain ⟨f0, f1, f2, f3, f4, f5⟩ := hf it (by simp)
    have hl := rv.length
    have D0 := Draws.tuple (prog := X.prog) (w := X.w) (A := X.A.in1) (I.ok.hd hc) it a ha its.toArray
    have hn : its.toArray.size = i := by simp; omega
    rw [hn] at D0
    exact wpAny_pyNext_enum_endD D0 he ⟨hit, p⟩ fun h' eb => ⟨rfl, I.turned (t' := s.toks) (fun b o hb q => eb b o hb q) f0 f1 f3 f4 f5⟩
  self := fun A i s Q E ⟨⟨_, he⟩, _⟩ q => wpAny_pyIter_enum he q
/-- enumerate(..) of a tuple -/
theorem pi_enumT {e : Expr} {ta : TA} {p pos tpos : Pos} {elts : List Expr} {kk : Nat} (hg : Gl X "enumerate") (hm : X.mg "enumerate" = none) (ha : PA X [e] ta) (hs : starEach [e] X.env = [(false, eval e X.env)] := by rfl) :
    PI X (.Tuple elts kk tpos) (.Call (.Name "enumerate" p) [e] [] pos) (fun σ H R => ta σ H fun vs H1 => ∃ a us, vs = [.ref a] ∧ SqT X.K H1 a us ∧ R (ItET X.K a) H1) := by
  refine ⟨fun pins s σ H R I hh => ?_⟩
  refine Call_ (ld_blt I hg hm boot_enumerate (PyProof.Rows.callWith_type1 (thn (ha.run pos pins s σ H _ I hh) fun ws s1 ⟨vs, H1, I1, r1, q1⟩ => ?_) hs rfl))
  obtain ⟨a, us, ex, hq, q⟩ := q1
  subst ex
  cases r1 with
  | cons r rr =>
    cases rr
    cases r
    obtain ⟨its, rv, p', hz⟩ := I1.tuple hq
    have hal : a < s1.heap.objs.size := p'.lt
    refine callEnumT p' fun h' he hit hsz hk => wpAny_pyIter_enum he ?_
    have I2 : Inv X pins σ H1 { s1 with heap := h' } := I1.kept (t' := s1.toks) hk
    refine ⟨s1.heap.objs.size + 1, [s1.heap.objs.size + 1, s1.heap.objs.size], _, _, H1, rfl, I2, turnET a (s1.heap.objs.size + 1) s1.heap.objs.size (Nat.ne_of_lt hal) (Nat.ne_of_gt (Nat.lt_succ_of_lt hal)), ⟨⟨.none, he⟩, hit, Nat.succ_ne_self _⟩, fun b hb => ?_, q⟩
    have hle : s1.heap.objs.size ≤ b := by
      rcases (show b = s1.heap.objs.size + 1 ∨ b = s1.heap.objs.size by simpa using hb) with z | z
      · rw [z]; exact Nat.le_succ _
      · rw [z]; exact Nat.le_refl _
    exact I1.fpOk hle (I1.hok.fresh hle)
end
end Vl
set_option Elab.async false
set_option linter.all false
set_option maxRecDepth 100000
/-! Vl7: what is walked; for; comprehensions. -/
namespace Vl
open PySem PySem.Spec PyProof.Rows L2

/-- what is walked: its items, and what of the store must stay -/
structure Iv where
  l : List D
  chk : Mem → Prop
structure ItOk (mg : Mg) (ρ : Rho) (M : Mem) (H : Hp) (J : It) (v : Iv) : Prop where
  go : ∀ i ρ2 M2 H2, Stw ρ M H ρ2 M2 H2 → Gs mg ρ2 M2 H2 → v.chk M2 → i < v.l.length → J.go i H2
  stop : ∀ ρ2 M2 H2, Stw ρ M H ρ2 M2 H2 → Gs mg ρ2 M2 H2 → v.chk M2 → J.stop v.l.length H2
  yld : ∀ i ρ2 M2 H2 x H3, Stw ρ M H ρ2 M2 H2 → Gs mg ρ2 M2 H2 → v.chk M2 → i < v.l.length → J.yld i H2 x H3 → Same H2 H3 ∧ ∃ d, v.l[i]? = some d ∧ Rep mg (SM ρ2 M2) H3 x d
def KontI (mg : Mg) (ρ : Rho) (M : Mem) (H : Hp) (r : R Iv) (K : It → Hp → Prop) (E : XK) : Prop := match r with
  | .ok v M' => v.chk M' ∧ ∀ ρ' H' J, Stp ρ M H ρ' M' H' → Gs mg ρ' M' H' → ItOk mg ρ' M' H' J v → K J H'
  | .err x M' => ∀ ρ' cls d H', Stp ρ M H ρ' M' H' → Gs mg ρ' M' H' → RepX mg ρ' M' H' cls d x → E cls d H'
  | .bad => False
def liftI (mg : Mg) (W : WX) (fi : En → Mem → R Iv) : TI := fun σ H K => ∃ ρ env M, Es mg ρ env M σ H ∧ KontI mg ρ M H (fi env M) K (fun c d H' => W c d σ H')
theorem KontI.from {mg : Mg} {ρ ρ' : Rho} {M M' : Mem} {H H' : Hp} {r : R Iv} {K : It → Hp → Prop} {E : XK} (s : Stp ρ M H ρ' M' H') (h : KontI mg ρ M H r K E) : KontI mg ρ' M' H' r K E := by
  cases r with
  | ok v M2 => exact ⟨h.1, fun ρ2 H2 J s2 g i => h.2 ρ2 H2 J (s.trans s2) g i⟩
  | err x M2 => exact fun ρ2 c d H2 s2 g r => h ρ2 c d H2 (s.trans s2) g r
  | bad => exact h
theorem KontI.bind {mg : Mg} {ρ : Rho} {M : Mem} {H : Hp} {r : R Val} {k : Val → Mem → R Iv} {K : It → Hp → Prop} {E : XK} (h : KontI mg ρ M H (rbind r k) K E) :
    Kont mg ρ M H r (fun u H1 => ∃ ρ1 M1 v, Stp ρ M H ρ1 M1 H1 ∧ Gs mg ρ1 M1 H1 ∧ RepV mg ρ1 M1 H1 u v ∧ KontI mg ρ1 M1 H1 (k v M1) K E) E := by
  cases r with
  | ok v M2 => exact fun ρ2 u H2 s2 g rv => ⟨ρ2, M2, v, s2, g, rv, h.from s2⟩
  | err x M2 => exact h
  | bad => exact h
theorem KontI.binds {mg : Mg} {ρ : Rho} {M : Mem} {H : Hp} {r : R (List Val)} {k : List Val → Mem → R Iv} {K : It → Hp → Prop} {E : XK} (h : KontI mg ρ M H (rbind r k) K E) :
    Konts mg ρ M H r (fun u H1 => ∃ ρ1 M1 v, Stp ρ M H ρ1 M1 H1 ∧ Gs mg ρ1 M1 H1 ∧ RepVs mg ρ1 M1 H1 u v ∧ KontI mg ρ1 M1 H1 (k v M1) K E) E := by
  cases r with
  | ok v M2 => exact fun ρ2 u H2 s2 g rv => ⟨ρ2, M2, v, s2, g, rv, h.from s2⟩
  | err x M2 => exact h
  | bad => exact h
def VI (X : Cx) (W : WX) (tg iter : Expr) (fi : En → Mem → R Iv) : Prop := PI X tg iter (liftI (gm X) W fi)
section
variable {X : Cx} {W : WX} {e a b c tg iter : Expr} {es rest : List Expr} {f g h : EF} {p q : BF} {pos : Pos} {st : Stmt} {sts : List Stmt} {F G : SF} {fs : En → Mem → R (List Val)}
theorem pi_imp {w w' : TI} (h : PI X tg iter w) (k : ∀ σ H K, w' σ H K → w σ H K) : PI X tg iter w' := ⟨fun pins s σ H K I q => h.run pins s σ H K I (k σ H K q)⟩
theorem PI.or {w w' : TI} (h : PI X tg iter w) (h' : PI X tg iter w') : PI X tg iter (fun σ H K => w σ H K ∨ w' σ H K) := ⟨fun pins s σ H K I q => q.elim (h.run pins s σ H K I) (h'.run pins s σ H K I)⟩

/-! ### sequences -/
def ivSeq (v : Val) (l : List D) : Iv := ⟨l, match v with
  | .d _ => fun _ => True
  | .obj k => fun M => M[k]? = some (.lst l)
  | .exc _ => fun _ => True⟩
def iSeq (f : EF) : En → Mem → R Iv := fun e M => rbind (f e M) fun v M1 => match rdS M1 v with
  | some l => .ok (ivSeq v l) M1
  | none => .bad
theorem ivSeq_chk {M : Mem} {v : Val} {l : List D} (h : rdS M v = some l) : (ivSeq v l).chk M := by
  cases v with
  | d x => trivial
  | exc x => trivial
  | obj k =>
    show M[k]? = some (.lst l)
    unfold rdS rdT rdL plL at h
    dsimp only at h
    split at h
    · rename_i el; cases h; exact el
    · cases h
theorem ivSeq_rd {M M2 : Mem} {v : Val} {l : List D} (h : rdS M v = some l) (c : (ivSeq v l).chk M2) : rdS M2 v = some l := by
  cases v with
  | d x => cases x <;> exact h
  | exc x => cases h
  | obj k =>
    have c : M2[k]? = some (.lst l) := c
    unfold rdS rdT rdL plL
    dsimp only
    rw [c]
theorem rdT_none {v : Val} {M : Mem} {l : List D} (h : rdT v = none) (e : rdS M v = some l) : rdL M v = some l := by
  unfold rdS at e
  rw [h] at e
  exact e
theorem ItOk.list {mg : Mg} {ρ : Rho} {M : Mem} {H : Hp} {v : Val} {l : List D} {a : Addr} (hv : rdT v = none) (e : rdS M v = some l) (r : RepV mg ρ M H (.ref a) v) : ItOk mg ρ M H (Itl mg.K a) (ivSeq v l) := by
  have key : ∀ {ρ2 M2 H2}, Stw ρ M H ρ2 M2 H2 → Gs mg ρ2 M2 H2 → (ivSeq v l).chk M2 → ∃ us, SqL mg.K H2 a us ∧ RepL mg (SM ρ2 M2) H2 us l := fun {ρ2 M2 H2} s g c => by
    obtain ⟨a', us, ea, hq, rl⟩ := rdL_rep g (r.stw s) (rdT_none hv (ivSeq_rd e c))
    cases ea
    exact ⟨us, hq, rl⟩
  refine ⟨fun i ρ2 M2 H2 s g c hi => ?_, fun ρ2 M2 H2 s g c => ?_, fun i ρ2 M2 H2 x H3 s g c hi y => ?_⟩
  · obtain ⟨us, hq, rl⟩ := key s g c
    obtain ⟨u, eu, _⟩ := rl.get (List.getElem?_eq_getElem hi)
    exact ⟨us, u, hq, eu⟩
  · obtain ⟨us, hq, rl⟩ := key s g c
    exact ⟨us, hq, Nat.le_of_eq (RepL.length rl)⟩
  · obtain ⟨us, hq, rl⟩ := key s g c
    obtain ⟨u, eu, ru⟩ := rl.get (List.getElem?_eq_getElem hi)
    obtain ⟨e3, y⟩ := y
    subst e3
    have := y us hq
    rw [eu] at this
    cases this
    exact ⟨.refl _, _, List.getElem?_eq_getElem hi, ru⟩
theorem ItOk.tup {mg : Mg} {ρ : Rho} {M : Mem} {H : Hp} {v : Val} {l : List D} {a : Addr} (hv : rdT v = some l) (r : RepV mg ρ M H (.ref a) v) : ItOk mg ρ M H (Itt mg.K a) (ivSeq v l) := by
  have key : ∀ {ρ2 M2 H2}, Stw ρ M H ρ2 M2 H2 → ∃ us, SqT mg.K H2 a us ∧ RepL mg (SM ρ2 M2) H2 us l := fun {ρ2 M2 H2} s => by
    obtain ⟨a', us, ea, hq, rl⟩ := rdT_rep (r.stw s) hv
    cases ea
    exact ⟨us, hq, rl⟩
  refine ⟨fun i ρ2 M2 H2 s g c hi => ?_, fun ρ2 M2 H2 s g c => ?_, fun i ρ2 M2 H2 x H3 s g c hi y => ?_⟩
  · obtain ⟨us, hq, rl⟩ := key s
    obtain ⟨u, eu, _⟩ := rl.get (List.getElem?_eq_getElem hi)
    exact ⟨us, u, hq, eu⟩
  · obtain ⟨us, hq, rl⟩ := key s
    exact ⟨us, hq, Nat.le_of_eq (RepL.length rl)⟩
  · obtain ⟨us, hq, rl⟩ := key s
    obtain ⟨u, eu, ru⟩ := rl.get (List.getElem?_eq_getElem hi)
    obtain ⟨e3, y⟩ := y
    subst e3
    have := y us hq
    rw [eu] at this
    cases this
    exact ⟨.refl _, _, List.getElem?_eq_getElem hi, ru⟩
theorem vi_seq (h : VE X W iter f) : VI X W tg iter (iSeq f) := pi_imp (PI.or (pi_list h) (pi_tup h)) fun σ H K ⟨ρ, env, M, es, q⟩ => by
  unfold iSeq at q
  revert q
  cases hf : f env M with
  | bad => exact fun q => q.elim
  | err x M1 => exact fun q => .inl ⟨ρ, env, M, es, by rw [hf]; exact q⟩
  | ok v M1 =>
    simp only [rbind_ok]
    cases hs : rdS M1 v with
    | none => exact fun q => q.elim
    | some l =>
      intro ⟨c, q⟩
      cases ht : rdT v with
      | some l' =>
        have el : l' = l := by
          unfold rdS at hs
          rw [ht] at hs
          exact Option.some.inj hs
        subst el
        refine .inr ⟨ρ, env, M, es, ?_⟩
        rw [hf]
        intro ρ1 u H1 s1 g1 r1
        obtain ⟨a, us, rfl, hq, rl⟩ := rdT_rep r1 ht
        exact ⟨a, rfl, ⟨us, hq⟩, q ρ1 H1 _ s1 g1 (ItOk.tup ht r1)⟩
      | none =>
        refine .inl ⟨ρ, env, M, es, ?_⟩
        rw [hf]
        intro ρ1 u H1 s1 g1 r1
        obtain ⟨a, us, rfl, hq, rl⟩ := rdL_rep g1 r1 (rdT_none ht hs)
        exact ⟨a, rfl, ⟨us, hq⟩, q ρ1 H1 _ s1 g1 (ItOk.list ht hs r1)⟩

/-! ### ranges -/
def rngD (lo : Int) (n : Nat) : List D := (List.range n).map fun i => .int (lo + (i : Nat))
theorem rngD_length {lo : Int} {n : Nat} : (rngD lo n).length = n := by simp [rngD]
theorem rngD_get {lo : Int} {n i : Nat} (h : i < n) : (rngD lo n)[i]? = some (.int (lo + (i : Nat))) := by
  simp [rngD, h]
def ivRng (lo : Int) (n : Nat) : Iv := ⟨rngD lo n, fun _ => True⟩
theorem ItOk.rng {mg : Mg} {ρ : Rho} {M : Mem} {H : Hp} {lo : Int} {n : Nat} : ItOk mg ρ M H (Itr lo n) (ivRng lo n) := by
  refine ⟨fun i ρ2 M2 H2 s g c hi => ?_, fun ρ2 M2 H2 s g c => ?_, fun i ρ2 M2 H2 x H3 s g c hi y => ?_⟩
  · have hi : i < (rngD lo n).length := hi
    rw [rngD_length] at hi; exact hi
  · show n ≤ (rngD lo n).length
    rw [rngD_length]; exact Nat.le_refl _
  · have hi : i < (rngD lo n).length := hi
    rw [rngD_length] at hi
    obtain ⟨e3, e4⟩ := y
    subst e3
    exact ⟨.refl _, _, rngD_get hi, e4⟩
def smallI (i : Int) : Prop := -(2 ^ 62) ≤ i ∧ i < 2 ^ 62
instance : ∀ i, Decidable (smallI i) := fun i => by unfold smallI; exact inferInstance
def iRng1' (fs : En → Mem → R (List Val)) : En → Mem → R Iv := fun e M => rbind (fs e M) fun vs M1 => match vs with
  | [.d (.int j)] => if smallI j then .ok (ivRng 0 j.toNat) M1 else .bad
  | _ => .bad
def iRng2' (fs : En → Mem → R (List Val)) : En → Mem → R Iv := fun e M => rbind (fs e M) fun vs M1 => match vs with
  | [.d (.int i), .d (.int j)] => if smallI i ∧ smallI j then .ok (ivRng i (j - i).toNat) M1 else .bad
  | _ => .bad
theorem vi_range1 {p pos : Pos} (hg : Gl X "range") (hm : X.mg "range" = none) (ha : VA X W [a] fs) (hs : starEach [a] X.env = [(false, eval a X.env)] := by rfl) : VI X W tg (.Call (.Name "range" p) [a] [] pos) (iRng1' fs) := pi_imp (pi_range1 hg hm ha hs) fun σ H K ⟨ρ, env, M, es, q⟩ => by
  refine ⟨ρ, env, M, es, (KontI.binds q).mono (fun us H1 ⟨ρ1, M1, vs, s1, g1, r1, q1⟩ => ?_) fun _ _ _ z => z⟩
  split at q1
  · rename_i j
    split at q1
    · rename_i hj
      obtain ⟨u, r, rfl, hu, hr⟩ := r1
      cases hr; cases hu
      exact ⟨j, rfl, hj.1, hj.2, q1.2 ρ1 H1 _ .refl g1 ItOk.rng⟩
    · exact q1.elim
  · exact q1.elim
theorem vi_range2 {p pos : Pos} (hg : Gl X "range") (hm : X.mg "range" = none) (ha : VA X W [a, b] fs) (hs : starEach [a, b] X.env = [(false, eval a X.env), (false, eval b X.env)] := by rfl) (hs2 : starEach [b] X.env = [(false, eval b X.env)] := by rfl) : VI X W tg (.Call (.Name "range" p) [a, b] [] pos) (iRng2' fs) := pi_imp (pi_range2 hg hm ha hs hs2) fun σ H K ⟨ρ, env, M, es, q⟩ => by
  refine ⟨ρ, env, M, es, (KontI.binds q).mono (fun us H1 ⟨ρ1, M1, vs, s1, g1, r1, q1⟩ => ?_) fun _ _ _ z => z⟩
  split at q1
  · rename_i i j
    split at q1
    · rename_i hj
      obtain ⟨u, r, rfl, hu, u2, r2, rfl, hu2, hr⟩ := r1
      cases hr; cases hu; cases hu2
      exact ⟨i, j, rfl, ⟨hj.1.1, hj.1.2, hj.2.1, hj.2.2⟩, q1.2 ρ1 H1 _ .refl g1 ItOk.rng⟩
    · exact q1.elim
  · exact q1.elim

/-! ### enumerate, zip, items -/
def enumD : Nat → List D → List D
  | _, [] => []
  | i, x :: r => .tup [.int (i : Nat), x] :: enumD (i + 1) r
theorem enumD_length : ∀ (l : List D) (i : Nat), (enumD i l).length = l.length
  | [], _ => rfl
  | x :: r, i => by simp [enumD, enumD_length r]
theorem enumD_get : ∀ (l : List D) (i j : Nat) (x : D), l[j]? = some x → (enumD i l)[j]? = some (.tup [.int ((i + j : Nat) : Int), x])
  | [], _, _, _, h => by simp at h
  | y :: r, i, 0, x, h => by simp at h; subst h; simp [enumD]
  | y :: r, i, j + 1, x, h => by
    have := enumD_get r (i + 1) j x (by simpa using h)
    simp only [enumD, List.getElem?_cons_succ, this]
    congr 3
    have : i + 1 + j = i + (j + 1) := by omega
    rw [this]
def ivEnum (v : Val) (l : List D) : Iv := ⟨enumD 0 l, (ivSeq v l).chk⟩
theorem pair_new {mg : Mg} {ρ2 : Rho} {M2 : Mem} {H2 : Hp} {T : Addr} {x y : V} {d e : D} (g : Gs mg ρ2 M2 H2) (hT : H2 T = none) (rx : Rep mg (SM ρ2 M2) H2 x d) (ry : Rep mg (SM ρ2 M2) H2 y e) :
    Same H2 (upd H2 T (.tup [x, y])) ∧ Rep mg (SM ρ2 M2) (upd H2 T (.tup [x, y])) (.ref T) (.tup [d, e]) := by
  obtain ⟨s, g', n⟩ := g.alloc hT (.tup [x, y])
  exact ⟨same_upd hT, T, [x, y], rfl, .inl upd_same, n, x, [y], rfl, Rep.mono s.keep rx, y, [], rfl, Rep.mono s.keep ry, rfl⟩
theorem ItOk.enumL {mg : Mg} {ρ : Rho} {M : Mem} {H : Hp} {v : Val} {l : List D} {a : Addr} (hv : rdT v = none) (e : rdS M v = some l) (r : RepV mg ρ M H (.ref a) v) : ItOk mg ρ M H (Ite mg.K a) (ivEnum v l) := by
  have key : ∀ {ρ2 M2 H2}, Stw ρ M H ρ2 M2 H2 → Gs mg ρ2 M2 H2 → (ivSeq v l).chk M2 → ∃ us, SqL mg.K H2 a us ∧ RepL mg (SM ρ2 M2) H2 us l := fun {ρ2 M2 H2} s g c => by
    obtain ⟨a', us, ea, hq, rl⟩ := rdL_rep g (r.stw s) (rdT_none hv (ivSeq_rd e c))
    cases ea
    exact ⟨us, hq, rl⟩
  refine ⟨fun i ρ2 M2 H2 s g c hi => ?_, fun ρ2 M2 H2 s g c => ?_, fun i ρ2 M2 H2 x H3 s g c hi y => ?_⟩
  · have hi : i < (enumD 0 l).length := hi
    rw [enumD_length] at hi
    obtain ⟨us, hq, rl⟩ := key s g c
    obtain ⟨u, eu, _⟩ := rl.get (List.getElem?_eq_getElem hi)
    exact ⟨us, u, hq, eu⟩
  · obtain ⟨us, hq, rl⟩ := key s g c
    refine ⟨us, hq, ?_⟩
    show us.length ≤ (enumD 0 l).length
    rw [enumD_length]
    exact Nat.le_of_eq (RepL.length rl)
  · have hi : i < (enumD 0 l).length := hi
    rw [enumD_length] at hi
    obtain ⟨us, hq, rl⟩ := key s g c
    obtain ⟨u, eu, ru⟩ := rl.get (List.getElem?_eq_getElem hi)
    obtain ⟨T, x, rfl, hT, rfl, hx⟩ := y
    have := hx us hq
    rw [eu] at this
    cases this
    have := pair_new g hT (x := .int (i : Nat)) (d := .int (i : Nat)) rfl ru
    exact ⟨this.1, _, (enumD_get l 0 i _ (List.getElem?_eq_getElem hi)).trans (by rw [Nat.zero_add]), this.2⟩
theorem ItOk.enumT {mg : Mg} {ρ : Rho} {M : Mem} {H : Hp} {v : Val} {l : List D} {a : Addr} (hv : rdT v = some l) (r : RepV mg ρ M H (.ref a) v) : ItOk mg ρ M H (ItET mg.K a) (ivEnum v l) := by
  have key : ∀ {ρ2 M2 H2}, Stw ρ M H ρ2 M2 H2 → ∃ us, SqT mg.K H2 a us ∧ RepL mg (SM ρ2 M2) H2 us l := fun {ρ2 M2 H2} s => by
    obtain ⟨a', us, ea, hq, rl⟩ := rdT_rep (r.stw s) hv
    cases ea
    exact ⟨us, hq, rl⟩
  refine ⟨fun i ρ2 M2 H2 s g c hi => ?_, fun ρ2 M2 H2 s g c => ?_, fun i ρ2 M2 H2 x H3 s g c hi y => ?_⟩
  · have hi : i < (enumD 0 l).length := hi
    rw [enumD_length] at hi
    obtain ⟨us, hq, rl⟩ := key s
    obtain ⟨u, eu, _⟩ := rl.get (List.getElem?_eq_getElem hi)
    exact ⟨us, u, hq, eu⟩
  · obtain ⟨us, hq, rl⟩ := key s
    refine ⟨us, hq, ?_⟩
    show us.length = (enumD 0 l).length
    rw [enumD_length]
    exact RepL.length rl
  · have hi : i < (enumD 0 l).length := hi
    rw [enumD_length] at hi
    obtain ⟨us, hq, rl⟩ := key s
    obtain ⟨u, eu, ru⟩ := rl.get (List.getElem?_eq_getElem hi)
    obtain ⟨T, x, rfl, hT, rfl, hx⟩ := y
    have := hx us hq
    rw [eu] at this
    cases this
    have := pair_new g hT (x := .int (i : Nat)) (d := .int (i : Nat)) rfl ru
    exact ⟨this.1, _, (enumD_get l 0 i _ (List.getElem?_eq_getElem hi)).trans (by rw [Nat.zero_add]), this.2⟩
def iEnumF (fs : En → Mem → R (List Val)) : En → Mem → R Iv := fun e M => rbind (fs e M) fun vs M1 => match vs with
  | [v] => (match rdS M1 v with
    | some l => .ok (ivEnum v l) M1
    | none => .bad)
  | _ => .bad
theorem vi_enum {p pos tpos : Pos} {elts : List Expr} {kk : Nat} (hg : Gl X "enumerate") (hm : X.mg "enumerate" = none) (ha : VA X W [a] fs) (hs : starEach [a] X.env = [(false, eval a X.env)] := by rfl) : VI X W (.Tuple elts kk tpos) (.Call (.Name "enumerate" p) [a] [] pos) (iEnumF fs) :=
  pi_imp (PI.or (pi_enum hg hm ha hs) (pi_enumT hg hm ha hs)) fun σ H K ⟨ρ, env, M, es, q⟩ => by
  unfold iEnumF at q
  revert q
  cases hf : fs env M with
  | bad => exact fun q => q.elim
  | err x M1 => exact fun q => .inl ⟨ρ, env, M, es, by rw [hf]; exact q⟩
  | ok vs M1 =>
    simp only [rbind_ok]
    intro q
    split at q
    · rename_i v
      split at q
      · rename_i l hs
        cases ht : rdT v with
        | some l' =>
          have el : l' = l := by
            unfold rdS at hs
            rw [ht] at hs
            exact Option.some.inj hs
          subst el
          refine .inr ⟨ρ, env, M, es, ?_⟩
          rw [hf]
          intro ρ1 us0 H1 s1 g1 r1
          obtain ⟨u, r, rfl, hu, hr⟩ := r1
          cases hr
          obtain ⟨a, us, rfl, hq, rl⟩ := rdT_rep hu ht
          exact ⟨a, us, rfl, hq, q.2 ρ1 H1 _ s1 g1 (ItOk.enumT ht hu)⟩
        | none =>
          refine .inl ⟨ρ, env, M, es, ?_⟩
          rw [hf]
          intro ρ1 us0 H1 s1 g1 r1
          obtain ⟨u, r, rfl, hu, hr⟩ := r1
          cases hr
          obtain ⟨a, us, rfl, hq, rl⟩ := rdL_rep g1 hu (rdT_none ht hs)
          exact ⟨a, us, rfl, hq, q.2 ρ1 H1 _ s1 g1 (ItOk.enumL ht hs hu)⟩
      · exact q.elim
    · exact q.elim

/-! ### for -/
noncomputable def forF (chk : Mem → Prop) (tg : D → En → Option En) (body : SF) : List D → SF
  | [] => fun e M => open Classical in if chk M then .nx e M else .bad
  | x :: r => fun e M => open Classical in if chk M then (match tg x e with
    | none => .bad
    | some e1 => match body e1 M with
      | .nx e' M' => forF chk tg body r e' M'
      | .ct e' M' => forF chk tg body r e' M'
      | .bk e' M' => .nx e' M'
      | o => o) else .bad
theorem forF_chk {chk : Mem → Prop} {tg : D → En → Option En} {body : SF} {l : List D} {e : En} {M : Mem} {mg : Mg} {ρ : Rho} {H : Hp} {D : Ends} (h : KontS mg ρ M H (forF chk tg body l e M) D W) : chk M := by
  cases l with
  | nil =>
    unfold forF at h
    by_cases c : chk M
    · exact c
    · rw [if_neg c] at h; exact h.elim
  | cons x r =>
    unfold forF at h
    by_cases c : chk M
    · exact c
    · rw [if_neg c] at h; exact h.elim
noncomputable def sFor (fi : En → Mem → R Iv) (tg : D → En → Option En) (body : SF) : SF := fun e M => match fi e M with
  | .ok v M1 => forF v.chk tg body v.l e M1
  | .err x M1 => .er x e M1
  | .bad => .bad
theorem vs_for {ix : List Nat} {t : D → En → Option En} {fi : En → Mem → R Iv} (hp : PassesOwn (model X.prog X.w) X.A X.env X.xe) (hc : X.calm = true) (hi : VI X W tg iter fi) (hg : VG X ix tg t) (hb : VSs X W sts F)
    (hs : ∀ x, foldedSetIterable iter X.env x = pure x := by intro _; rfl) : VS X W (.For tg iter sts [] pos) (sFor fi t F) := ps_imp (ps_for hp hc hi hg hb hs) fun D σ H ⟨ρ, env, M, es, q⟩ => by
  refine ⟨ρ, env, M, es, ?_⟩
  unfold sFor at q
  revert q
  cases hf : fi env M with
  | bad => exact fun q => q.elim
  | err x M1 => exact fun q ρ1 c d H1 s1 g1 r1 => q ρ1 σ c d H1 s1 (es.step s1 g1) r1
  | ok v M1 =>
    intro q
    dsimp only at q
    have ck : v.chk M1 := by
      cases hl : v.l with
      | nil =>
        rw [hl] at q
        unfold forF at q
        by_cases c : v.chk M1
        · exact c
        · rw [if_neg c] at q; exact q.elim
      | cons x r =>
        rw [hl] at q
        unfold forF at q
        by_cases c : v.chk M1
        · exact c
        · rw [if_neg c] at q; exact q.elim
    refine ⟨ck, fun ρ1 H1 J s1 g1 io => ?_⟩
    have q1 := q.from s1
    have es1 := es.step s1 g1
    refine for_it (g := liftG (gm X) ix t) (tb := liftS (gm X) W F) (D := D) (n := v.l.length) (G := fun H2 => ∃ ρ2 M2, Stp ρ1 M1 H1 ρ2 M2 H2 ∧ Gs (gm X) ρ2 M2 H2 ∧ v.chk M2) (Y := fun i H2 x H3 => J.yld i H2 x H3) ⟨fun i H2 hi ⟨ρ2, M2, s2, g2, c2⟩ => io.go i ρ2 M2 H2 s2.toStw g2 c2 hi, fun H2 ⟨ρ2, M2, s2, g2, c2⟩ => io.stop ρ2 M2 H2 s2.toStw g2 c2, fun i H2 x H3 _ _ y => y⟩
      (fun i σ2 H2 => ∃ ρ2 env2 M2, Stp ρ1 M1 H1 ρ2 M2 H2 ∧ Es (gm X) ρ2 env2 M2 σ2 H2 ∧ KontS (gm X) ρ2 M2 H2 (forF v.chk t F (v.l.drop i) env2 M2) D W) ⟨ρ1, env, M1, .refl, es1, q1⟩
      (fun i σ2 H2 _ ⟨ρ2, env2, M2, s2, es2, q2⟩ => ⟨ρ2, M2, s2, es2.gs, forF_chk q2⟩)
      (fun i x σ2 H2 H3 hi ⟨ρ2, env2, M2, s2, es2, q2⟩ y => ?_) (fun σ2 H2 ⟨ρ2, env2, M2, s2, es2, q2⟩ => ?_)
    · have c2 := forF_chk q2
      obtain ⟨sm, d, ed, rd⟩ := io.yld i ρ2 M2 H2 x H3 s2.toStw es2.gs c2 hi y
      obtain ⟨g3, s3⟩ := es2.gs.same sm
      have es3 := es2.step s3 g3
      have ed' : v.l.drop i = d :: v.l.drop (i + 1) := by
        rw [List.drop_eq_getElem_cons hi]
        rw [List.getElem?_eq_getElem hi] at ed
        rw [Option.some.inj ed]
      rw [ed'] at q2
      unfold forF at q2
      rw [if_pos c2] at q2
      have q3 := q2.from s3
      revert q3
      cases et : t d env2 with
      | none => exact fun q3 => q3.elim
      | some e1 =>
        intro q3
        dsimp only at q3
        refine ⟨ρ2, env2, M2, d, e1, es3, rd, et, fun σ' _ es' => ⟨ρ2, e1, M2, es', ?_⟩⟩
        revert q3
        cases F e1 M2 with
        | nx e2 M3 => exact fun q3 ρ4 σ4 H4 s4 es4 => ⟨ρ4, e2, M3, (s2.trans s3).trans s4, es4, q3.from s4⟩
        | ct e2 M3 => exact fun q3 ρ4 σ4 H4 s4 es4 => ⟨ρ4, e2, M3, (s2.trans s3).trans s4, es4, q3.from s4⟩
        | bk e2 M3 => exact fun q3 => q3
        | rt w M3 => exact fun q3 => q3
        | er x2 e2 M3 => exact fun q3 => q3
        | bad => exact fun q3 => q3
    · rw [List.drop_length] at q2
      have c2 := forF_chk q2
      unfold forF at q2
      rw [if_pos c2] at q2
      exact q2 ρ2 σ2 H2 .refl es2
end
end Vl
set_option Elab.async false
set_option linter.all false
set_option maxRecDepth 100000
/-! Vl8: list comprehensions. -/
namespace Vl
open PySem PySem.Spec PyProof.Rows L2

def wipeE (e : En) : List Nat → En
  | [] => e
  | v :: vs => (wipeE e vs).set v none
theorem Es.wipe {mg : Mg} {ρ : Rho} {e : En} {M : Mem} {σ : L2.St} {H : Hp} (es : Es mg ρ e M σ H) : ∀ vs, Es mg ρ (wipeE e vs) M (wipe σ vs) H
  | [] => es
  | v :: vs => (Es.wipe es vs).unset
/-- nothing that is raised leaves -/
abbrev W0 : WX := fun _ _ _ _ => False
def lcPut (y : Val) (r : R (List D)) : R (List D) := match y with
  | .d y => (match r with
    | .ok ys M => .ok (y :: ys) M
    | .err _ _ => .bad
    | .bad => .bad)
  | .obj _ => .bad
  | .exc _ => .bad
noncomputable def lcF (chk : Mem → Prop) (t : D → En → Option En) (ts : BF) (el : EF) (e : En) : List D → Mem → R (List D)
  | [], M => open Classical in if chk M then .ok [] M else .bad
  | x :: r, M => open Classical in if chk M then (match t x e with
    | none => .bad
    | some e1 => match ts e1 M with
      | .ok b M1 => if b = true then (match el e1 M1 with
        | .ok y M2 => lcPut y (lcF chk t ts el e r M2)
        | .err _ _ => .bad
        | .bad => .bad) else lcF chk t ts el e r M1
      | .err _ _ => .bad
      | .bad => .bad) else .bad
def bYes : BF := fun _ M => .ok true M
noncomputable def fLc (fi : En → Mem → R Iv) (t : D → En → Option En) (ts : BF) (el : EF) (vs : List Nat) : EF := fun e M => match fi e M with
  | .ok v M1 => if v.l.length ≤ big then (match lcF v.chk t ts el (wipeE e vs) v.l M1 with
    | .ok ys M2 => .ok (.d (.lst ys)) M2
    | _ => .bad) else .bad
  | .err x M1 => .err x M1
  | .bad => .bad

section
variable {mg : Mg} {ρ : Rho} {M : Mem} {H : Hp} {C : Addr}
def hide (ρ : Rho) (C : Addr) : Rho := ⟨ρ.r, fun a => ρ.z a ∨ a = C⟩
theorem SM_hide {a : Addr} : SM (hide ρ C) M a ↔ SM ρ M a ∨ a = C := by
  unfold SM hide
  constructor
  · rintro ((h | h) | h)
    · exact .inl (.inl h)
    · exact .inr h
    · exact .inl (.inr h)
  · rintro ((h | h) | h)
    · exact .inl (.inl h)
    · exact .inr h
    · exact .inl (.inr h)
theorem RepW.same_r {ρ' : Rho} {H' : Hp} (er : ρ'.r = ρ.r) (k : ∀ a o, H a = some o → ¬ SM ρ M a → H' a = some o ∧ ¬ SM ρ' M a) {u : V} {v : Val} (h : RepW mg ρ M H u v) : RepW mg ρ' M H' u v := by
  cases v with
  | exc x => exact h
  | d x => exact Rep.mono k h
  | obj j => exact ⟨by rw [show (ρ' : Nat → Addr) = ρ from er]; exact h.1, h.2⟩
theorem RepFV.same_r {ρ' : Rho} {H' : Hp} (er : ρ'.r = ρ.r) (k : ∀ a o, H a = some o → ¬ SM ρ M a → H' a = some o ∧ ¬ SM ρ' M a) : ∀ {vs : List (Str × Val)} {us : List (Str × V)}, RepFV mg ρ M H us vs → RepFV mg ρ' M H' us vs
  | [], _, h => h
  | (_, v) :: vs, _, h => by
    obtain ⟨u, r, e, h1, h2⟩ := h
    exact ⟨u, r, e, h1.same_r er k, RepFV.same_r er k h2⟩
theorem RepO.same_r {ρ' : Rho} {H' : Hp} (er : ρ'.r = ρ.r) (k : ∀ a o, H a = some o → ¬ SM ρ M a → H' a = some o ∧ ¬ SM ρ' M a) {a : Addr} {o : MO} (he : ∀ x, H a = some x → H' a = some x) (q : RepO mg ρ M H a o) : RepO mg ρ' M H' a o := by
  cases o with
  | lst ds => obtain ⟨us, e, q⟩ := q; exact ⟨us, he _ e, RepL.mono k q⟩
  | dct ds => obtain ⟨us, e, q⟩ := q; exact ⟨us, he _ e, RepP.mono k q⟩
  | ins C gs => obtain ⟨Ca, dx, fs, e, m, q⟩ := q; exact ⟨Ca, dx, fs, he _ e, m, RepFV.same_r er k q⟩
  | dead => trivial
/-- a new list is hidden -/
theorem Gs.hide (g : Gs mg ρ M H) (hC : H C = none) (ob : HO) : Gs mg (hide ρ C) M (upd H C ob) := by
  have k : ∀ a o, H a = some o → ¬ SM ρ M a → upd H C ob a = some o ∧ ¬ SM (Vl.hide ρ C) M a := fun a o e n => ⟨same_upd hC a o e, fun z => by
    rcases SM_hide.mp z with z | z
    · exact n z
    · rw [z, hC] at e; cases e⟩
  refine ⟨fun j x e => RepO.same_r (ρ := ρ) (ρ' := Vl.hide ρ C) rfl k (fun y z => same_upd hC _ _ z) (g.at_ j x e), g.inj, fun a z => ?_, fun j l z => ?_⟩
  · rcases z with z | z
    · obtain ⟨x, e⟩ := g.zin a z
      exact ⟨x, same_upd hC a x e⟩
    · exact ⟨ob, by rw [z]; exact upd_same⟩
  · rcases z with z | z
    · exact g.zlv j l z
    · obtain ⟨y, e, _⟩ := g.some_of l
      have z : ρ j = C := z
      rw [z, hC] at e; cases e
/-- the hidden list is written -/
theorem Gs.hwrite {ρ : Rho} (hz : ρ.z C) (g : Gs mg ρ M H) (ob : HO) : Gs mg ρ M (upd H C ob) := by
  have k : ∀ a o, H a = some o → ¬ SM ρ M a → upd H C ob a = some o ∧ ¬ SM ρ M a := fun a o e n => by
    have : a ≠ C := fun z => n (.inl (by rw [z]; exact hz))
    exact ⟨by rw [upd_ne this]; exact e, n⟩
  refine ⟨fun j x e => ?_, g.inj, fun a z => ?_, g.zlv⟩
  · by_cases hx : x = .dead
    · subst hx; trivial
    · refine RepO.same_r (ρ := ρ) rfl k (fun y w => ?_) (g.at_ j x e)
      have : ρ j ≠ C := fun q => g.zlv j ⟨x, e, hx⟩ (by rw [q]; exact hz)
      rw [upd_ne this]; exact w
  · by_cases e : a = C
    · exact ⟨ob, by rw [e]; exact upd_same⟩
    · obtain ⟨x, q⟩ := g.zin a z
      exact ⟨x, by rw [upd_ne e]; exact q⟩
/-- no more hidden -/
theorem Gs.show {ρ0 ρ : Rho} (er : ρ0.r = ρ.r) (ez : ∀ a, ρ0.z a → ρ.z a) (g : Gs mg ρ M H) : Gs mg ρ0 M H := by
  have k : ∀ a o, H a = some o → ¬ SM ρ M a → H a = some o ∧ ¬ SM ρ0 M a := fun a o e n => ⟨e, fun z => by
    rcases z with z | ⟨j, l, q⟩
    · exact n (.inl (ez a z))
    · exact n (.inr ⟨j, l, by rw [← show (ρ0 : Nat → Addr) = ρ from er]; exact q⟩)⟩
  refine ⟨fun j x e => ?_, fun j i lj li q => g.inj j i lj li (by rw [← show (ρ0 : Nat → Addr) = ρ from er]; exact q), fun a z => g.zin a (ez a z), fun j l z => g.zlv j l (ez _ (by rw [← show (ρ0 : Nat → Addr) = ρ from er]; exact z))⟩
  rw [show (ρ0 : Nat → Addr) = ρ from er]
  exact RepO.same_r (ρ := ρ) er k (fun y w => w) (g.at_ j x e)
end
section
variable {X : Cx} {W : WX} {tg iter elt : Expr} {ifs : List Expr} {fi : En → Mem → R Iv} {t : D → En → Option En} {ts : BF} {el : EF} {vs ix : List Nat}
def VTs (X : Cx) (W : WX) (es : List Expr) (f : BF) : Prop := PTs X es (liftb (gm X) W f)
theorem vts_nil : VTs X W [] bYes := ⟨fun pins s σ H Q I ⟨ρ, env, M, es, h⟩ => pts_nil.run pins s σ H Q I (h ρ H .refl es.gs)⟩
theorem vts_one {c : Expr} {p : BF} (h : VT X W c p) : VTs X W [c] p := pts_one h
theorem lc_chk {chk : Mem → Prop} {e : En} {l : List D} {M M' : Mem} {ys : List D} (h : lcF chk t ts el e l M = .ok ys M') : chk M := by
  cases l with
  | nil =>
    unfold lcF at h
    by_cases c : chk M
    · exact c
    · rw [if_neg c] at h; cases h
  | cons x r =>
    unfold lcF at h
    by_cases c : chk M
    · exact c
    · rw [if_neg c] at h; cases h
theorem wipe_get (σ : L2.St) (i : Nat) : ∀ vs : List Nat, (wipe σ vs)[i]? = if i ∈ vs ∧ i < σ.length then some none else σ[i]?
  | [] => by simp [wipe]
  | v :: vs => by
    have ih := wipe_get σ i vs
    unfold wipe
    by_cases e : v = i
    · subst e
      by_cases h : v < σ.length
      · rw [List.getElem?_set_self (by rw [wipe_length]; exact h), if_pos ⟨List.mem_cons_self, h⟩]
      · rw [if_neg (fun q => h q.2), List.getElem?_eq_none (by rw [List.length_set, wipe_length]; omega), List.getElem?_eq_none (by omega)]
    · rw [List.getElem?_set_ne e, ih]
      have : (i ∈ v :: vs) ↔ i ∈ vs := by
        rw [List.mem_cons]
        exact ⟨fun h => h.elim (fun q => absurd q.symm e) id, .inr⟩
      simp only [this]
theorem wipe_apart {ix vs : List Nat} (hix : ∀ i ∈ ix, i ∈ vs) {σ σ' : L2.St} (ap : Apart ix (wipe σ vs) σ') : wipe σ' vs = wipe σ vs := by
  have hl : σ'.length = σ.length := ap.1.trans (wipe_length σ vs)
  apply List.ext_getElem?
  intro i
  rw [wipe_get, wipe_get, hl]
  by_cases h : i ∈ vs ∧ i < σ.length
  · rw [if_pos h, if_pos h]
  · rw [if_neg h, if_neg h]
    by_cases hi : i ∈ vs
    · have h2 : ¬ i < σ.length := fun q => h ⟨hi, q⟩
      rw [List.getElem?_eq_none (by omega), List.getElem?_eq_none (by omega)]
    · rw [ap.2 i (fun z => hi (hix i z)), wipe_get, if_neg (fun q => hi q.1)]
/-- the comprehension's reading -/
theorem lc_lift (hix : ∀ i ∈ ix, i ∈ vs) (σ : L2.St) (H : Hp) (Q : VK) (h : lift (gm X) W (fLc fi t ts el vs) σ H Q) : tLc (liftI (gm X) W fi) (liftG (gm X) ix t) (liftb (gm X) W0 ts) (lift (gm X) W0 el) vs σ H Q := by
  obtain ⟨ρ, env, M, es, q⟩ := h
  refine ⟨ρ, env, M, es, ?_⟩
  unfold fLc at q
  revert q
  cases hf : fi env M with
  | bad => exact fun q => q.elim
  | err x M1 => exact fun q => q
  | ok v M1 =>
    intro q
    dsimp only at q
    by_cases hbig : v.l.length ≤ big
    case neg => rw [if_neg hbig] at q; exact q.elim
    rw [if_pos hbig] at q
    revert q
    cases hl : lcF v.chk t ts el (wipeE env vs) v.l M1 with
    | bad => exact fun q => q.elim
    | err x M2 => exact fun q => q.elim
    | ok ys Mf =>
      intro q
      dsimp only at q
      refine ⟨lc_chk hl, fun ρ1 H1 J s1 g1 io C hC => ?_⟩
      have es1 := es.step s1 g1
      have nz1 : ¬ ρ1.z C := fun z => by
        obtain ⟨o, e⟩ := g1.zin _ z
        rw [hC] at e; cases e
      refine lc_it (g := liftG (gm X) ix t) (tt := liftb (gm X) W0 ts) (te := lift (gm X) W0 el) (n := v.l.length) (G := fun H2 => ∃ ρ2 M2, Stw ρ1 M1 H1 ρ2 M2 H2 ∧ Gs (gm X) ρ2 M2 H2 ∧ v.chk M2) (Y := fun i H2 x H3 => J.yld i H2 x H3)
        ⟨fun i H2 hi ⟨ρ2, M2, s2, g2, c2⟩ => io.go i ρ2 M2 H2 s2 g2 c2 hi, fun H2 ⟨ρ2, M2, s2, g2, c2⟩ => io.stop ρ2 M2 H2 s2 g2 c2, fun i H2 x H3 _ _ y => y⟩
        (fun i H2 => ∃ (ρ2 : Rho) (M2 : Mem) (us : List V) (acc : List D) (zs : List D), Stw ρ1 M1 H1 ρ2 M2 H2 ∧ Gs (gm X) ρ2 M2 H2 ∧ ρ2.z = (hide ρ1 C).z ∧ (∀ a o, ρ1.z a → H1 a = some o → H2 a = some o) ∧ H2 C = some (.lst us) ∧ RepL (gm X) (SM ρ2 M2) H2 us acc ∧ acc.length ≤ i ∧
          lcF v.chk t ts el (wipeE env vs) (v.l.drop i) M2 = .ok zs Mf ∧ acc ++ zs = ys) ?start ?hG ?turn ?done
      case start =>
        refine ⟨hide ρ1 C, M1, [], [], ys, ⟨Nat.le_refl _, fun _ _ => rfl, fun a o e n => ⟨same_upd hC a o e, fun z => ?_⟩⟩, g1.hide hC _, rfl, fun a o _ e => same_upd hC a o e, upd_same, rfl, Nat.le_refl _, hl, rfl⟩
        rcases SM_hide.mp z with z | z
        · exact n z
        · rw [z, hC] at e; cases e
      case hG =>
        intro i H2 hi ⟨ρ2, M2, us, acc, zs, s2, g2, ez, zk, eC, rl, ha, hz, he⟩
        exact ⟨ρ2, M2, s2, g2, lc_chk hz⟩
      case done =>
        intro H2 ⟨ρ2, M2, us, acc, zs, s2, g2, ez, zk, eC, rl, ha, hz, he⟩
        rw [List.drop_length] at hz
        have c2 := lc_chk hz
        unfold lcF at hz
        rw [if_pos c2] at hz
        cases hz
        rw [List.append_nil] at he
        subst he
        have gs := g2.show (ρ := ρ2) (ρ0 := ⟨ρ2.r, ρ1.z⟩) rfl fun a z => by rw [ez]; exact .inl z
        have nC : ¬ SM (⟨ρ2.r, ρ1.z⟩ : Rho) Mf C := fun z => by
          rcases z with z | ⟨j, l, e⟩
          · exact nz1 z
          · exact g2.zlv j l (by rw [ez]; exact .inr e)
        have sub : ∀ a, SM (⟨ρ2.r, ρ1.z⟩ : Rho) Mf a → SM ρ2 Mf a := fun a z => by
          rcases z with z | ⟨j, l, e⟩
          · exact .inl (by rw [ez]; exact .inl z)
          · exact .inr ⟨j, l, e⟩
        have st : Stp ρ1 M1 H1 ⟨ρ2.r, ρ1.z⟩ Mf H2 := ⟨⟨s2.len, s2.rho, fun a o e n => ⟨(s2.keep a o e n).1, fun z => (s2.keep a o e n).2 (sub a z)⟩⟩, rfl, zk⟩
        exact q _ _ _ (s1.trans st) gs ⟨C, us, rfl, eC, nC, RepL.mono (fun a o e n => ⟨e, fun z => n (sub a z)⟩) rl⟩
      case turn =>
        intro i x H2 H3 hi ⟨ρ2, M2, us, acc, zs, s2, g2, ez, zk, eC, rl, ha, hz, he⟩ y
        have c2 := lc_chk hz
        obtain ⟨sm, d, ed, rd⟩ := io.yld i ρ2 M2 H2 x H3 s2 g2 c2 hi y
        obtain ⟨g3, s3⟩ := g2.same sm
        have ed' : v.l.drop i = d :: v.l.drop (i + 1) := by
          rw [List.drop_eq_getElem_cons hi]
          rw [List.getElem?_eq_getElem hi] at ed
          rw [Option.some.inj ed]
        rw [ed'] at hz
        unfold lcF at hz
        rw [if_pos c2] at hz
        have s13 := s2.trans s3.toStw
        -- the slots at the hidden state
        have es2 : Es (gm X) ρ2 env M2 σ H3 := ⟨g3, fun j w h => let ⟨u, a, b⟩ := es1.sl j w h; ⟨u, a, b.stw s13⟩, es1.len⟩
        have rl3 : RepL (gm X) (SM ρ2 M2) H3 us acc := RepL.mono s3.keep rl
        have eC3 : H3 C = some (.lst us) := sm _ _ eC
        have zk3 : ∀ a o, ρ1.z a → H1 a = some o → H3 a = some o := fun a o z e => sm _ _ (zk a o z e)
        revert hz
        cases et : t d (wipeE env vs) with
        | none => exact fun hz => nomatch hz
        | some e1 =>
          intro hz
          dsimp only at hz
          refine ⟨ρ2, wipeE env vs, M2, d, e1, es2.wipe vs, rd, et, fun σ' ap es' => ?_⟩
          refine ⟨wipe_apart hix ap, ρ2, e1, M2, es', ?_⟩
          revert hz
          cases hts : ts e1 M2 with
          | bad => exact fun hz => nomatch hz
          | err x2 M3 => exact fun hz => nomatch hz
          | ok b M3 =>
            intro hz ρ4 H4 s4 g4
            dsimp only at hz
            have zC : ρ4.z C := by rw [s4.zeq, ez]; exact .inr rfl
            have eC4 : H4 C = some (.lst us) := s4.zk _ _ (by rw [ez]; exact .inr rfl) eC3
            have zk4 : ∀ a o, ρ1.z a → H1 a = some o → H4 a = some o := fun a o z e => s4.zk a o (by rw [ez]; exact .inl z) (zk3 a o z e)
            have rl4 := RepL.mono s4.keep rl3
            cases b with
            | false =>
              rw [if_neg Bool.false_ne_true]
              exact ⟨ρ4, M3, us, acc, zs, s13.trans s4.toStw, g4, s4.zeq.trans ez, zk4, eC4, rl4, Nat.le_succ_of_le ha, by rw [if_neg Bool.false_ne_true] at hz; exact hz, he⟩
            | true =>
              rw [if_pos rfl]
              refine ⟨ρ4, e1, M3, es'.step s4 g4, ?_⟩
              rw [if_pos rfl] at hz
              revert hz
              cases hel : el e1 M3 with
              | bad => exact fun hz => nomatch hz
              | err x2 M4 => exact fun hz => nomatch hz
              | ok w M4 =>
                cases w with
                | obj k => exact fun hz => nomatch hz
                | exc x => exact fun hz => nomatch hz
                | d yy =>
                  intro hz ρ5 u H5 s5 g5 r5
                  dsimp only [lcPut] at hz
                  revert hz
                  cases hrec : lcF v.chk t ts el (wipeE env vs) (v.l.drop (i + 1)) M4 with
                  | bad => exact fun hz => nomatch hz
                  | err x2 M5 => exact fun hz => nomatch hz
                  | ok ys2 M5 =>
                    intro hz
                    cases hz
                    have zC5 : ρ5.z C := by rw [s5.zeq]; exact zC
                    have eC5 : H5 C = some (.lst us) := s5.zk _ _ zC eC4
                    have zk5 : ∀ a o, ρ1.z a → H1 a = some o → H5 a = some o := fun a o z e => s5.zk a o (by rw [s4.zeq, ez]; exact .inl z) (zk4 a o z e)
                    have rl5 := RepL.mono s5.keep rl4
                    have e0 := RepL.length rl5
                    have kp : ∀ a o, H5 a = some o → ¬ SM ρ5 M4 a → upd H5 C (.lst (us ++ [u])) a = some o ∧ ¬ SM ρ5 M4 a := fun a o e n => by
                      have : a ≠ C := fun z => n (.inl (by rw [z]; exact zC5))
                      exact ⟨by rw [upd_ne this]; exact e, n⟩
                    refine ⟨us, eC5, by rw [e0]; exact big_lt (by omega), ρ5, M4, us ++ [u], acc ++ [yy], ys2, ?_, g5.hwrite zC5 _, s5.zeq.trans (s4.zeq.trans ez), fun a o z e => ?_, upd_same, ?_, by simp; exact ha, hrec, by rw [List.append_assoc]; exact he⟩
                    · refine (s13.trans (s4.toStw.trans s5.toStw)).trans ⟨Nat.le_refl _, fun _ _ => rfl, kp⟩
                    · have : a ≠ C := fun q => nz1 (by rw [← q]; exact z)
                      rw [upd_ne this]; exact zk5 a o z e
                    · exact RepL.mono kp (RepL.append rl5 ⟨u, [], rfl, r5, rfl⟩)
theorem gm_blk (hh : X.A.handled = none) (s : Shared) (H : Hp) (scope : Scope) (cenv : Env) (fp : List Addr) : gm (X.blk s H scope cenv fp) = gm X := by
  show (⟨X.mg, X.K, hdOf (X.blk s H scope cenv fp)⟩ : Mg) = ⟨X.mg, X.K, hdOf X⟩
  rw [hdOf_none hh, hdOf_none (X := X.blk s H scope cenv fp) hh]
theorem ve_lc {own : List (Str × Nat)} {ix : List Nat} {scope : Scope} {pos : Pos} (hi : VI X W tg iter fi) (hh : X.A.handled = none) (hc : X.calm = true) (hN : X.N.Nodup) (ok : BlkOk X.N X.env.scope scope own) (hix : ∀ i ∈ ix, i ∈ own.map (·.2))
    (hg : ∀ (s : Shared) (H : Hp) (C : Addr) (cl : List (Str × Addr)) (fp : List Addr), VG (X.blk s H scope (compEnvC scope cl C X.env) fp) ix tg t) (ht : ∀ (s : Shared) (H : Hp) (C : Addr) (cl : List (Str × Addr)) (fp : List Addr), VTs (X.blk s H scope (compEnvC scope cl C X.env) fp) W0 ifs ts)
    (he : ∀ (s : Shared) (H : Hp) (C : Addr) (cl : List (Str × Addr)) (fp : List Addr), VE (X.blk s H scope (compEnvC scope cl C X.env) fp) W0 elt el) (hs : ∀ x, foldedSetIterable iter X.env x = pure x := by intro _; rfl) :
    VE X W (.ListComp elt [⟨tg, iter, ifs, 0⟩] scope pos) (fLc fi t ts el (own.map (·.2))) := pe_imp (pe_lc (g := liftG (gm X) ix t) (tt := liftb (gm X) W0 ts) (te := lift (gm X) W0 el) hc hN hi ok (fun s H C cl fp => by have z := hg s H C cl fp; unfold VG at z; rw [gm_blk hh] at z; exact z) (fun s H C cl fp => by have z := ht s H C cl fp; unfold VTs at z; rw [gm_blk hh] at z; exact z) (fun s H C cl fp => by have z := he s H C cl fp; unfold VE at z; rw [gm_blk hh] at z; exact z) hs) fun σ H Q h => lc_lift hix σ H Q h
/-- a name = a comprehension, on one line -/
theorem vs_setLc {i : Nat} {y : Str} {py : Pos} {own : List (Str × Nat)} {ix : List Nat} {scope : Scope} {pos spos : Pos} (hi : VI X W tg iter fi) (hh : X.A.handled = none) (hc : X.calm = true) (hN : X.N.Nodup) (ok : BlkOk X.N X.env.scope scope own) (hix : ∀ i ∈ ix, i ∈ own.map (·.2))
    (hg : ∀ (s : Shared) (H : Hp) (C : Addr) (cl : List (Str × Addr)) (fp : List Addr), VG (X.blk s H scope (compEnvC scope cl C X.env) fp) ix tg t) (ht : ∀ (s : Shared) (H : Hp) (C : Addr) (cl : List (Str × Addr)) (fp : List Addr), VTs (X.blk s H scope (compEnvC scope cl C X.env) fp) W0 ifs ts)
    (he : ∀ (s : Shared) (H : Hp) (C : Addr) (cl : List (Str × Addr)) (fp : List Addr), VE (X.blk s H scope (compEnvC scope cl C X.env) fp) W0 elt el)
    (hy : X.N[i]? = some y := by rfl) (hyl : X.env.scope.names.lookup y = some .local := by rfl) (hsw : swapsWith (.ListComp elt [⟨tg, iter, ifs, 0⟩] scope pos) (some (.Name y py)) spos.line X.env = pure true := by exact sw_true rfl rfl rfl (by decide +kernel)) (hs : ∀ x, foldedSetIterable iter X.env x = pure x := by intro _; rfl) :
    VS X W (.Assign [.Name y py] (.ListComp elt [⟨tg, iter, ifs, 0⟩] scope pos) spos) (sSet i (fLc fi t ts el (own.map (·.2)))) := ps_imp (ps_setLc (g := liftG (gm X) ix t) (tt := liftb (gm X) W0 ts) (te := lift (gm X) W0 el) hc hN hy hyl hsw hi ok (fun s H C cl fp => by have z := hg s H C cl fp; unfold VG at z; rw [gm_blk hh] at z; exact z) (fun s H C cl fp => by have z := ht s H C cl fp; unfold VTs at z; rw [gm_blk hh] at z; exact z) (fun s H C cl fp => by have z := he s H C cl fp; unfold VE at z; rw [gm_blk hh] at z; exact z) hs) fun D σ H h => by
  refine lc_lift hix σ H _ (liftS_bind h fun ρ env M H1 u v es rv q => ?_)
  exact q ρ _ H1 .refl (es.set rv)
end
end Vl
set_option Elab.async false
set_option linter.all false
set_option maxRecDepth 100000
/-! Vl9: defs: what they keep, calls; leaving a def drops what it made. -/
namespace Vl
open PySem PySem.Spec PyProof.Rows L2

def spF (mg : Mg) (φ : List Val → Mem → R Val) : Sp := fun vs H Q E => ∃ ρ M ws, Gs mg ρ M H ∧ RepVs mg ρ M H vs ws ∧ Kont mg ρ M H (φ ws M) Q E

/-! ### leaving a def -/
def okRef (n : Nat) : Val → Bool
  | .d _ => true
  | .obj k => decide (k < n)
  | .exc _ => false
def okO (n : Nat) : MO → Bool
  | .ins _ fs => fs.all fun p => okRef n p.2
  | _ => true
/-- what the def made is dropped, the answer stays -/
def cutV' (n : Nat) (v : Val) (M : Mem) : R Val := match v with
  | .d x => .ok (.d x) (M.take n)
  | .obj k => if k < n then .ok (.obj k) (M.take n) else (match M[k]? with
    | some (.lst l) => .ok (.d (.lst l)) (M.take n)
    | some (.dct l) => .ok (.d (.dct l)) (M.take n)
    | _ => .ok (.obj k) M)
  | .exc _ => .bad
def OkCut (M0 M : Mem) : Prop := ∀ k o, k < M0.length → M[k]? = some o → M0[k]? = some o ∨ okO M0.length o = true
noncomputable def finish (M0 : Mem) (v : Val) (M : Mem) : R Val := open Classical in
  if M.length = M0.length then .ok v M else if OkCut M0 M then cutV' M0.length v M else .bad
noncomputable def finishX (M0 : Mem) (x : Exn) (M : Mem) : R Val := open Classical in
  if M.length = M0.length then .err x M else if OkCut M0 M then .err x (M.take M0.length) else .bad
section
variable {mg : Mg} {ρ ρ' : Rho} {M M' : Mem} {H H' : Hp} {u : V} {v v' : Val} {n : Nat}
theorem okF_of : ∀ {gs : List (Str × Val)} {fs : List (Str × V)}, RepFV mg ρ M H fs gs → (gs.all fun p => okRef M.length p.2) = true
  | [], _, _ => rfl
  | (f, w) :: gs, _, h => by
    obtain ⟨u, r, rfl, h1, h2⟩ := h
    rw [List.all_cons, okF_of h2, Bool.and_true]
    cases w with
    | d x => rfl
    | obj k => exact decide_eq_true h1.2
    | exc x => exact h1.elim
theorem okO_of {a : Addr} {o : MO} (h : RepO mg ρ M H a o) : okO M.length o = true := by
  cases o with
  | lst l => rfl
  | dct l => rfl
  | dead => rfl
  | ins C gs =>
    obtain ⟨Ca, dx, fs, e, m, q⟩ := h
    exact okF_of q
theorem live_take {k : Nat} (h : Live (M.take n) k) : k < n ∧ Live M k := by
  obtain ⟨o, e, ne⟩ := h
  have hk : k < (M.take n).length := (List.getElem?_eq_some_iff.mp e).1
  have hn : k < n := by rw [List.length_take] at hk; omega
  rw [List.getElem?_take_of_lt hn] at e
  exact ⟨hn, o, e, ne⟩
theorem SM_take {a : Addr} (h : SM ρ (M.take n) a) : SM ρ M a := h.imp id fun ⟨k, l, e⟩ => ⟨k, (live_take l).2, e⟩
theorem RepFV.take : ∀ {gs : List (Str × Val)} {fs : List (Str × V)}, (n ≤ M.length) → RepFV mg ρ M H fs gs → (gs.all fun p => okRef n p.2) = true → RepFV mg ρ (M.take n) H fs gs
  | [], _, _, h, _ => h
  | (f, w) :: gs, _, hn, h, hk => by
    obtain ⟨u, r, rfl, h1, h2⟩ := h
    rw [List.all_cons, Bool.and_eq_true] at hk
    refine ⟨u, r, rfl, ?_, RepFV.take hn h2 hk.2⟩
    cases w with
    | d x => exact Rep.mono (fun a o e m => ⟨e, fun z => m (SM_take z)⟩) h1
    | obj k => exact ⟨h1.1, by rw [List.length_take]; have := of_decide_eq_true hk.1; omega⟩
    | exc x => exact h1.elim
theorem RepO.take {a : Addr} {o : MO} (hn : n ≤ M.length) (h : RepO mg ρ M H a o) (hk : okO n o = true) : RepO mg ρ (M.take n) H a o := by
  have k : ∀ a o, H a = some o → ¬ SM ρ M a → H a = some o ∧ ¬ SM ρ (M.take n) a := fun a o e m => ⟨e, fun z => m (SM_take z)⟩
  cases o with
  | lst ds => obtain ⟨us, e, q⟩ := h; exact ⟨us, e, RepL.mono k q⟩
  | dct ds => obtain ⟨us, e, q⟩ := h; exact ⟨us, e, RepP.mono k q⟩
  | ins C gs => obtain ⟨Ca, dx, fs, e, m, q⟩ := h; exact ⟨Ca, dx, fs, e, m, RepFV.take hn q hk⟩
  | dead => trivial
theorem cut_gs (g0 : Gs mg ρ M H) (s : Stp ρ M H ρ' M' H') (g : Gs mg ρ' M' H') (hk : OkCut M M') : Stp ρ M H ρ' (M'.take M.length) H' ∧ Gs mg ρ' (M'.take M.length) H' := by
  have hn := s.len
  refine ⟨⟨⟨by rw [List.length_take]; omega, s.rho, fun a o e m => ⟨(s.keep a o e m).1, fun z => (s.keep a o e m).2 (SM_take z)⟩⟩, s.zeq, s.zk⟩, ⟨fun k o e => ?_, fun j k lj lk q => g.inj j k (live_take lj).2 (live_take lk).2 q, g.zin, fun k l z => g.zlv k (live_take l).2 z⟩⟩
  have hl : k < (M'.take M.length).length := (List.getElem?_eq_some_iff.mp e).1
  have hk' : k < M.length := by rw [List.length_take] at hl; omega
  rw [List.getElem?_take_of_lt hk'] at e
  refine (g.at_ k o e).take hn ?_
  rcases hk k o hk' e with h | h
  · exact okO_of (g0.at_ k o h)
  · exact h
theorem finish_ok {Q : VK} {E : XK} (g0 : Gs mg ρ M H) (s : Stp ρ M H ρ' M' H') (g : Gs mg ρ' M' H') (r : RepV mg ρ' M' H' u v) (q : Kont mg ρ M H (finish M v M') Q E) : Q u H' := by
  unfold finish at q
  split at q
  · exact q ρ' u H' s g r
  · split at q
    · rename_i hk
      obtain ⟨s1, g1⟩ := cut_gs g0 s g hk
      have hn := s.len
      have k : ∀ a o, H' a = some o → ¬ SM ρ' M' a → H' a = some o ∧ ¬ SM ρ' (M'.take M.length) a := fun a o e m => ⟨e, fun z => m (SM_take z)⟩
      unfold cutV' at q
      split at q
      · exact q ρ' u H' s1 g1 (Rep.mono k r)
      · rename_i j
        split at q
        · rename_i hj
          exact q ρ' u H' s1 g1 ⟨r.1, by rw [List.length_take]; omega⟩
        · rename_i hj
          have off : ∀ {o}, M'[j]? = some o → o ≠ .dead → ¬ SM ρ' (M'.take M.length) (ρ' j) := fun {o} e ne z => by
            rcases z with z | ⟨i, l, ei⟩
            · exact g.zlv j ⟨o, e, ne⟩ z
            · have := g.inj i j (live_take l).2 ⟨o, e, ne⟩ ei
              have := (live_take l).1
              omega
          split at q
          · rename_i l e
            obtain ⟨us, eu, rl⟩ := g.at_ j _ e
            exact q ρ' u H' s1 g1 ⟨_, us, r.1, eu, off e (by intro z; cases z), RepL.mono k rl⟩
          · rename_i l e
            obtain ⟨us, eu, rl⟩ := g.at_ j _ e
            exact q ρ' u H' s1 g1 ⟨_, us, r.1, .inl eu, off e (by intro z; cases z), RepP.mono k rl⟩
          · exact q ρ' u H' s g r
      · exact q.elim
    · exact q.elim
theorem finishX_ok {Q : VK} {E : XK} {x : Exn} {cls : Value} {d : Option Addr} (g0 : Gs mg ρ M H) (s : Stp ρ M H ρ' M' H') (g : Gs mg ρ' M' H') (r : RepX mg ρ' M' H' cls d x) (q : Kont mg ρ M H (finishX M x M') Q E) : E cls d H' := by
  unfold finishX at q
  split at q
  · exact q ρ' cls d H' s g r
  · split at q
    · rename_i hk
      obtain ⟨s1, g1⟩ := cut_gs g0 s g hk
      have k : ∀ a o, H' a = some o → ¬ SM ρ' M' a → H' a = some o ∧ ¬ SM ρ' (M'.take M.length) a := fun a o e m => ⟨e, fun z => m (SM_take z)⟩
      refine q ρ' cls d H' s1 g1 ?_
      obtain ⟨C, e1, e2, h⟩ := r
      refine ⟨C, e1, e2, h.imp id fun ⟨dd, fs, a, b, c, e⟩ => ⟨dd, fs, a, b, fun z => c (SM_take z), RepF.mono k e⟩⟩
    · exact q.elim
end
/-- the slots at a def's entry -/
def env0 (n : Nat) (ws : List Val) : En := ws.map some ++ List.replicate (n - ws.length) none
/-- a def as a function: its body from its arguments -/
noncomputable def callF (n : Nat) (F : SF) (ws : List Val) (M : Mem) : R Val := match F (env0 n ws) M with
  | .rt v M' => finish M v M'
  | .nx _ M' => finish M (.d .non) M'
  | .er x _ M' => finishX M x M'
  | _ => .bad
theorem repVs_get {mg : Mg} {ρ : Rho} {M : Mem} {H : Hp} : ∀ {ws : List Val} {vs : List V} {i : Nat} {w : Val}, RepVs mg ρ M H vs ws → ws[i]? = some w → ∃ v, vs[i]? = some v ∧ RepV mg ρ M H v w
  | [], _, _, _, _, e => by simp at e
  | x :: r, _, 0, _, h, e => by
    obtain ⟨u, us, rfl, h1, h2⟩ := h
    simp at e; subst e
    exact ⟨u, rfl, h1⟩
  | x :: r, _, i + 1, _, h, e => by
    obtain ⟨u, us, rfl, h1, h2⟩ := h
    obtain ⟨v, a, b⟩ := repVs_get (i := i) h2 (by simpa using e)
    exact ⟨v, by simpa using a, b⟩
theorem es_start {mg : Mg} {ρ : Rho} {M : Mem} {H : Hp} {ws : List Val} {vs : List V} {N : List Str} (g : Gs mg ρ M H) (r : RepVs mg ρ M H vs ws) : Es mg ρ (env0 N.length ws) M (L2.start N vs) H := by
  have hl := RepVs.length r
  refine ⟨g, fun i w h => ?_, by unfold env0 L2.start; simp [hl]⟩
  unfold env0 at h
  by_cases hi : i < ws.length
  · rw [List.getElem?_append_left (by simpa using hi), List.getElem?_map] at h
    cases e : ws[i]? with
    | none => rw [e] at h; cases h
    | some x =>
      rw [e] at h
      cases h
      obtain ⟨v, a, b⟩ := repVs_get r e
      refine ⟨v, ?_, b⟩
      unfold L2.start
      rw [List.getElem?_append_left (by rw [List.length_map, hl]; exact hi), List.getElem?_map, a]
      rfl
  · rw [List.getElem?_append_right (by simpa using hi), List.getElem?_replicate] at h
    split at h <;> cases h

/-! ### a def keeps its function -/
section
variable {P : Program} {w : World} {K : PySem.W.Frag} {mg : Str → Option Value} {base : Heap}
theorem gm_calm {X : Cx} (h : X.A.handled = none) : gm X = ⟨X.mg, X.K, none⟩ := by
  show (⟨X.mg, X.K, hdOf X⟩ : Mg) = _
  rw [hdOf_none h]
abbrev FnV (P : Program) (w : World) (K : PySem.W.Frag) (mg : Str → Option Value) (base : Heap) (k : Nat) (f : Addr) (fd : FuncData) (ps : List Str) (φ : List Val → Mem → R Val) : Prop := FnOk P w K mg base (L2N.CX P w) k f fd ps (spF ⟨mg, K, none⟩ φ)
theorem fnV_of {name qual : Str} {params : Arguments} {body : List Stmt} {scope : Scope} {dV kV doc pm cdv ct oc : Value} {an od : Option Addr} {osl : Array (Option Value)} {N ps : List Str} {k : Nat} {f : Addr} {φ : List Val → Mem → R Val} {F : SF}
    (lk : K.lookup f = some ⟨oc, od, .func (PySem.W.fnOf name qual params body scope dV kV doc pm an cdv ct), osl⟩) (hcd : PySem.W.codeIn K cdv qual = true) (S : FnScope N ps scope)
    (hb : ∀ (A : Around) (outer : List Env) (s : Shared) (H : Hp) (E : XK), Room k (A.deeper (envOfC qual scope s.heap.objs.size f cdv)) →
      L2N.Takes (cxOf (L2N.CX P w) P w K mg base N qual scope f cdv A outer s H E) (fun c d _ H' => E c d H') → PassesOwn (model P w) (cxOf (L2N.CX P w) P w K mg base N qual scope f cdv A outer s H E).A (cxOf (L2N.CX P w) P w K mg base N qual scope f cdv A outer s H E).env (cxOf (L2N.CX P w) P w K mg base N qual scope f cdv A outer s H E).xe →
      VSs (cxOf (L2N.CX P w) P w K mg base N qual scope f cdv A outer s H E) (fun c d _ H' => E c d H') body F)
    (hφ : ∀ ws M, φ ws M ≠ .bad → ws.length = ps.length ∧ callF N.length F ws M = φ ws M) :
    FnV P w K mg base (k + 1) f (PySem.W.fnOf name qual params body scope dV kV doc pm an cdv ct) ps φ := by
  refine fn_of lk hcd S (fun vs H Q E ⟨ρ, M, ws, g, r, q⟩ => (RepVs.length r).trans (hφ ws M (fun z => by rw [z] at q; exact q)).1) fun A outer s H vs Q E hr ⟨ρ, M, ws, g, r, q⟩ => ?_
  have eg : gm (cxOf (L2N.CX P w) P w K mg base N qual scope f cdv A outer s H E) = ⟨mg, K, none⟩ := gm_calm hr.hd
  refine ⟨liftS ⟨mg, K, none⟩ (fun c d _ H' => E c d H') F, by
    have z := hb A outer s H E hr (L2N.takes_of rfl rfl rfl rfl) PassesOwn.leaving
    unfold VSs at z
    rw [eg] at z
    exact z, ρ, env0 N.length ws, M, es_start g r, ?_⟩
  have e := (hφ ws M (fun z => by rw [z] at q; exact q)).2
  rw [← e] at q
  unfold callF at q
  revert q
  cases F (env0 N.length ws) M with
  | nx e1 M1 => exact fun q ρ1 σ1 H1 s1 es1 => finish_ok (u := .non) (v := .d .non) g s1 es1.gs (show V.non = V.non from rfl) q
  | rt v M1 => exact fun q ρ1 u H1 s1 g1 r1 => finish_ok g s1 g1 r1 q
  | bk e1 M1 => exact fun q => q.elim
  | ct e1 M1 => exact fun q => q.elim
  | er x e1 M1 => exact fun q ρ1 σ1 c d H1 s1 es1 rx => finishX_ok g s1 es1.gs rx q
  | bad => exact fun q => q.elim
/-- a def of the module that keeps φ, at level k -/
structure FCal (P : Program) (w : World) (K : PySem.W.Frag) (mg : Str → Option Value) (base : Heap) (k : Nat) (x : Str) (φ : List Val → Mem → R Val) : Prop where
  ex : ∃ f fd ps, FnV P w K mg base k f fd ps φ ∧ mg x = some (.ref f) ∧ PySem.W.keepIn K (.ref f) = true ∧ Binds K fd ps []
/-- a method of the class cn -/
structure MCal (P : Program) (w : World) (K : PySem.W.Frag) (mg : Str → Option Value) (base : Heap) (k : Nat) (cn m : Str) (φ : List Val → Mem → R Val) : Prop where
  ex : ∃ C f fd ps, FnV P w K mg base k f fd ps φ ∧ mg cn = some (.ref C) ∧ Cls K C ∧ Meth K C m f ∧ Binds K fd ps []
/-- the class cn with its __init__ -/
structure NCal (P : Program) (w : World) (K : PySem.W.Frag) (mg : Str → Option Value) (base : Heap) (k : Nat) (cn : Str) (φ : List Val → Mem → R Val) : Prop where
  ex : ∃ C f fd ps, FnV P w K mg base k f fd ps φ ∧ mg cn = some (.ref C) ∧ Mk K C f ∧ Binds K fd ps []
theorem takes_W0 {X : Cx} : L2N.Takes X W0 := fun u s' ⟨_, _, _, _, _, _, _, _, _, _, _, _, _, _, _, _, w⟩ => w.elim
end
section
variable {X : Cx} {W : WX} {e a b c o : Expr} {es : List Expr} {f g h : EF} {p pos apos : Pos} {fs : En → Mem → R (List Val)} {j k : Nat} {x m cn : Str} {φ : List Val → Mem → R Val}
theorem run_cal {fa : Addr} {fd : FuncData} {ps : List Str} {sp : Sp} {pins : List (Addr × Obj)} {σ : L2.St} {H : Hp} {s : Shared} {Q : VK} {us : List Value} {vs : List V} (F : FnOk X.prog X.w X.K X.mg X.base (L2N.CX X.prog X.w) j fa fd ps sp) (hr : Room k X.A) (hk : j ≤ k) (hb : Binds X.K fd ps [])
    (tk : L2N.Takes X W) (I : Inv X pins σ H s) (r : Vals vs us) (h : sp vs H Q (fun c d H' => W c d σ H')) : wpAny (model X.prog X.w) X.A (call (.ref fa) us) (EP X pins σ Q) X.xe s := by
  have hl : (us ++ []).length = ps.length := by rw [List.append_nil, ← r.length]; exact F.len _ _ _ _ h
  have hb1 := hb s us I.kIn hl
  rw [List.append_nil] at hb1
  refine wpAny_call (codeAny_mono (F.run X.A X.stack s H ⟨us, []⟩ us vs Q _ (hr.mono hk) I.env0 hb1 r h) fun rr s' hq => ?_)
  cases rr with
  | error e1 => exact tk e1 s' (L2N.XE.of_call I (fun _ _ _ z => z) hq)
  | ok fl =>
    cases fl with
    | ret u => exact I.after hq
    | next => exact False.elim hq
    | brk => exact False.elim hq
    | cont => exact False.elim hq
def fCall (φ : List Val → Mem → R Val) (fs : En → Mem → R (List Val)) : EF := fun e M => rbind (fs e M) φ
theorem ve_call (cc : FCal X.prog X.w X.K X.mg X.base j x φ) (hr : Room k X.A) (hk : j ≤ k) (tk : L2N.Takes X W) (ha : VA X W (e :: es) fs) (hg : Gl X x) (hdb : (x == ("__debug__" : Str)) = false := by decide)
    (he : starEach (e :: es) X.env = (false, eval e X.env) :: starEach es X.env := by rfl) (hpl : (backTo pos (starEach es X.env)).any (·.1) = false := by rfl) : VE X W (.Call (.Name x p) (e :: es) [] pos) (fCall φ fs) := by
  obtain ⟨fa, fd, ps, F, hm, kp, hb⟩ := cc.ex
  replace F : FnOk X.prog X.w X.K X.mg X.base (L2N.CX X.prog X.w) j fa fd ps (spF (gm X) φ) := by rw [gm_calm hr.hd]; exact F
  refine ⟨fun pins s σ H Q I hh => ?_⟩
  refine wpAny_Call_Name_kw (ld_glob I hg hm ?_ hdb)
  have h2 : lifts (gm X) W fs σ H (fun vs H1 => spF (gm X) φ vs H1 Q (fun c d H' => W c d σ H')) := lifts_bind hh fun ρ env M H1 us ws es1 r q => ⟨ρ, M, ws, es1.gs, r, q⟩
  refine PySem.W.callWith_K (h₀ := X.base) I.ok.mod.kin kp (thn (ha.run pos pins s σ H _ I h2) fun us s1 ⟨vs, H1, I1, r, q⟩ => ⟨I1.kIn, ?_⟩) he hpl
  exact run_cal F hr hk hb tk I1 r q
theorem ve_call0 (cc : FCal X.prog X.w X.K X.mg X.base j x φ) (hr : Room k X.A) (hk : j ≤ k) (tk : L2N.Takes X W) (hg : Gl X x) (hdb : (x == ("__debug__" : Str)) = false := by decide) : VE X W (.Call (.Name x p) [] [] pos) (fCall φ fNil) := by
  obtain ⟨fa, fd, ps, F, hm, kp, hb⟩ := cc.ex
  replace F : FnOk X.prog X.w X.K X.mg X.base (L2N.CX X.prog X.w) j fa fd ps (spF (gm X) φ) := by rw [gm_calm hr.hd]; exact F
  refine ⟨fun pins s σ H Q I hh => ?_⟩
  refine wpAny_Call_Name_kw (ld_glob I hg hm ?_ hdb)
  obtain ⟨ρ, env, M, es1, q⟩ := hh
  exact PySem.W.callWith_K0 I.kIn kp (run_cal (us := []) F hr hk hb tk I .nil ⟨ρ, M, [], es1.gs, rfl, q⟩)
/-- an instance: its class, its fields -/
def insOf (M : Mem) : Val → Option (Str × List (Str × Val))
  | .d (.ins C fs) => some (C, fs.map fun p => (p.1, .d p.2))
  | .obj k => match M[k]? with
    | some (.ins C fs) => some (C, fs)
    | _ => none
  | _ => none
def lookF {α : Type} (f : Str) : List (Str × α) → Option α
  | [] => none
  | (g, x) :: r => if f = g then some x else lookF f r
theorem repF_map {mg : Mg} {ρ : Rho} {M : Mem} {H : Hp} : ∀ {gs : List (Str × D)} {us : List (Str × V)}, RepF mg (SM ρ M) H us gs → RepFV mg ρ M H us (gs.map fun p => (p.1, .d p.2))
  | [], _, h => h
  | (f, d) :: gs, _, h => by
    obtain ⟨u, r, e, h1, h2⟩ := h
    exact ⟨u, r, e, h1, repF_map h2⟩
theorem insOf_rep {mg : Mg} {ρ : Rho} {M : Mem} {H : Hp} {u : V} {v : Val} {gs : List (Str × Val)} (g : Gs mg ρ M H) (r : RepV mg ρ M H u v) (e : insOf M v = some (cn, gs)) : ∃ a C dx us, u = .ref a ∧ H a = some (.ins C dx us) ∧ mg.m cn = some (.ref C) ∧ RepFV mg ρ M H us gs := by
  cases v with
  | d x =>
    cases x <;> try (cases e; done)
    cases e
    obtain ⟨a, C, dx, us, e, h, n, m, q⟩ := r
    exact ⟨a, C, dx, us, e, h, m, repF_map q⟩
  | obj k =>
    unfold insOf at e
    dsimp only at e
    split at e
    · rename_i C fs el
      cases e
      obtain ⟨Ca, dx, us, h, m, q⟩ := g.at_ k _ el
      exact ⟨_, Ca, dx, us, r.1, h, m, q⟩
    · cases e
  | exc x => cases e
theorem lookF_rep {mg : Mg} {ρ : Rho} {M : Mem} {H : Hp} {f : Str} : ∀ {gs : List (Str × Val)} {us : List (Str × V)}, RepFV mg ρ M H us gs → match lookF f gs with
    | some v => ∃ u, us.lookup f = some u ∧ RepV mg ρ M H u v
    | none => us.lookup f = none
  | [], _, h => by cases h; rfl
  | (g, d) :: gs, _, h => by
    obtain ⟨u, r, rfl, h1, h2⟩ := h
    unfold lookF
    rw [List.lookup_cons]
    by_cases e : f = g
    · rw [if_pos e]
      have : (f == g) = true := by rw [e]; exact beq_self_eq_true g
      rw [this]
      exact ⟨u, rfl, h1.toV⟩
    · rw [if_neg e]
      have : (f == g) = false := beq_eq_false_iff_ne.mpr e
      rw [this]
      exact lookF_rep h2
/-- o.m(..), o of the class cn -/
def fMeth (cn m : Str) (φ : List Val → Mem → R Val) (f : EF) (fs : En → Mem → R (List Val)) : EF := fun e M => rbind (f e M) fun v M1 => match insOf M1 v with
  | some (C, gs) => if C = cn ∧ (lookF m gs).isNone = true then rbind (fs e M1) fun ws M2 => φ (v :: ws) M2 else .bad
  | none => .bad
theorem meth_at {ρ : Rho} {M : Mem} {H : Hp} {u : V} {v : Val} {gs : List (Str × Val)} {C : Addr} (g : Gs (gm X) ρ M H) (r : RepV (gm X) ρ M H u v) (e : insOf M v = some (cn, gs)) (hm : X.mg cn = some (.ref C)) (hn : (lookF m gs).isNone = true) :
    ∃ a dx us, u = .ref a ∧ H a = some (.ins C dx us) ∧ us.lookup m = none := by
  obtain ⟨a, C', dx, us, rfl, h, mc, q⟩ := insOf_rep g r e
  have : C' = C := by
    have z : X.mg cn = some (.ref C') := mc
    rw [hm] at z; cases z; rfl
  subst this
  have lk := lookF_rep (f := m) q
  cases hl : lookF m gs with
  | none => rw [hl] at lk; exact ⟨a, dx, us, rfl, h, lk⟩
  | some _ => rw [hl] at hn; cases hn
theorem ve_meth {pl : Sem Bool} (cc : MCal X.prog X.w X.K X.mg X.base j cn m φ) (hr : Room k X.A) (hk : j ≤ k) (tk : L2N.Takes X W) (ho : VE X W o f) (ha : VA X W (e :: es) fs)
    (hst : starEach (e :: es) X.env = (false, eval e X.env) :: starEach es X.env := by rfl) (hpl : (backTo pos (starEach es X.env)).any (·.1) = false := by rfl)
    (ht : eval (.Call (.Attribute o m apos) (e :: es) [] pos) X.env = (do
      let v0 ← eval o X.env
      standAt apos.atName
      let (f0, first) ← holding [v0] (getMethod v0 m pl)
      callWith pos f0 first (backTo pos (starEach (e :: es) X.env)) (backToKw pos (keywordEach [] X.env))) := by rfl) : VE X W (.Call (.Attribute o m apos) (e :: es) [] pos) (fMeth cn m φ f fs) := by
  obtain ⟨C, fa, fd, ps, F, hmg, hc, hm, hb⟩ := cc.ex
  replace F : FnOk X.prog X.w X.K X.mg X.base (L2N.CX X.prog X.w) j fa fd ps (spF (gm X) φ) := by rw [gm_calm hr.hd]; exact F
  refine ⟨fun pins s σ H Q I hh => ?_⟩
  have h2 : lift (gm X) W f σ H (fun x H1 => ∃ a dx us, x = .ref a ∧ H1 a = some (.ins C dx us) ∧ us.lookup m = none ∧ lifts (gm X) W fs σ H1 (fun vs H2 => spF (gm X) φ (.ref a :: vs) H2 Q (fun c d H' => W c d σ H'))) := by
    refine lift_bind hh fun ρ env M H1 u v es1 r q => ?_
    split at q
    · rename_i C0 gs ei
      split at q
      · rename_i hcn
        obtain ⟨rfl, hn⟩ := hcn
        obtain ⟨a, dx, us, rfl, h, lk⟩ := meth_at es1.gs r ei hmg hn
        refine ⟨a, dx, us, rfl, h, lk, ρ, env, M, es1, (Konts.bind q).mono (fun vs H2 ⟨ρ2, M2, ws, s2, g2, r2, q2⟩ => ?_) fun _ _ _ z => z⟩
        exact ⟨ρ2, M2, v :: ws, g2, ⟨_, _, rfl, r.step s2, r2⟩, q2⟩
      · exact q.elim
    · exact q.elim
  refine PySem.W.methodCall_KW (pl := pl) (thn (ho.run pins s σ H _ I h2) fun u s1 ⟨x, H1, I1, rx, a, dx, us, ex, ea, l, q⟩ => ?_) ht
  subst ex
  obtain rfl : u = Value.ref a := rx
  refine getmeth_ok I1 ea hc hm l ?_
  refine PySem.W.callWith_K (first := [.ref a]) (h₀ := X.base) I.ok.mod.kin hm.kp (thn (ha.run pos pins s1 σ H1 _ I1 q) fun us s2 ⟨vs, H2, I2, r, q2⟩ => ⟨I2.kIn, ?_⟩) hst hpl
  exact run_cal (us := .ref a :: us) (vs := .ref a :: vs) F hr hk hb tk I2 (.cons rfl r) q2
theorem ve_meth0 {pl : Sem Bool} (cc : MCal X.prog X.w X.K X.mg X.base j cn m φ) (hr : Room k X.A) (hk : j ≤ k) (tk : L2N.Takes X W) (ho : VE X W o f)
    (ht : eval (.Call (.Attribute o m apos) [] [] pos) X.env = (do
      let v0 ← eval o X.env
      standAt apos.atName
      let (f0, first) ← holding [v0] (getMethod v0 m pl)
      callWith pos f0 first (backTo pos (starEach [] X.env)) (backToKw pos (keywordEach [] X.env))) := by rfl) : VE X W (.Call (.Attribute o m apos) [] [] pos) (fMeth cn m φ f fNil) := by
  obtain ⟨C, fa, fd, ps, F, hmg, hc, hm, hb⟩ := cc.ex
  replace F : FnOk X.prog X.w X.K X.mg X.base (L2N.CX X.prog X.w) j fa fd ps (spF (gm X) φ) := by rw [gm_calm hr.hd]; exact F
  refine ⟨fun pins s σ H Q I hh => ?_⟩
  have h2 : lift (gm X) W f σ H (fun x H1 => ∃ a dx us, x = .ref a ∧ H1 a = some (.ins C dx us) ∧ us.lookup m = none ∧ spF (gm X) φ [.ref a] H1 Q (fun c d H' => W c d σ H')) := by
    refine lift_bind hh fun ρ env M H1 u v es1 r q => ?_
    split at q
    · rename_i C0 gs ei
      split at q
      · rename_i hcn
        obtain ⟨rfl, hn⟩ := hcn
        obtain ⟨a, dx, us, rfl, h, lk⟩ := meth_at es1.gs r ei hmg hn
        exact ⟨a, dx, us, rfl, h, lk, ρ, M, [v], es1.gs, ⟨_, _, rfl, r, rfl⟩, q⟩
      · exact q.elim
    · exact q.elim
  refine PySem.W.methodCall_KW (pl := pl) (thn (ho.run pins s σ H _ I h2) fun u s1 ⟨x, H1, I1, rx, a, dx, us, ex, ea, l, q⟩ => ?_) ht
  subst ex
  obtain rfl : u = Value.ref a := rx
  refine getmeth_ok I1 ea hc hm l ?_
  exact PySem.W.callWith_K0 (first := [.ref a]) I1.kIn hm.kp (run_cal (us := [.ref a]) (vs := [.ref a]) F hr hk hb tk I1 (.cons rfl .nil) q)
end
end Vl
set_option Elab.async false
set_option linter.all false
set_option maxRecDepth 100000
/-! Vl10: attributes, new instances, stores. -/
namespace Vl
open PySem PySem.Spec PyProof.Rows L2

/-- instances of cn bear f in their own dict -/
structure Fld (K : PySem.W.Frag) (mg : Str → Option Value) (cn f : Str) : Prop where
  ex : ∃ C, mg cn = some (.ref C) ∧ Cls K C ∧ NoAttr K C f
def fAttr (cs : List Str) (n : Str) (f : EF) : EF := fun e M => rbind (f e M) fun v M1 => match insOf M1 v with
  | some (C, gs) => if C ∈ cs then (match lookF n gs with
    | some x => .ok x M1
    | none => .bad) else .bad
  | none => .bad
def putG (f : Str) (v : Val) : List (Str × Val) → List (Str × Val)
  | [] => [(f, v)]
  | (g, x) :: r => if g = f then (g, v) :: r else (g, x) :: putG f v r
theorem putG_rep {mg : Mg} {ρ : Rho} {M : Mem} {H : Hp} {f : Str} {y : V} {v : Val} (ry : RepW mg ρ M H y v) : ∀ {gs : List (Str × Val)} {us : List (Str × V)}, RepFV mg ρ M H us gs → RepFV mg ρ M H (putF f y us) (putG f v gs)
  | [], _, h => by cases h; exact ⟨y, [], rfl, ry, rfl⟩
  | (g, d) :: gs, _, h => by
    obtain ⟨u, r, rfl, h1, h2⟩ := h
    unfold putF putG
    by_cases e : g = f
    · rw [if_pos e, if_pos e]; exact ⟨y, r, rfl, ry, h2⟩
    · rw [if_neg e, if_neg e]; exact ⟨u, _, rfl, h1, putG_rep ry h2⟩
theorem repFV_length {mg : Mg} {ρ : Rho} {M : Mem} {H : Hp} : ∀ {gs : List (Str × Val)} {us : List (Str × V)}, RepFV mg ρ M H us gs → us.length = gs.length
  | [], _, h => by cases h; rfl
  | (g, d) :: gs, _, h => by
    obtain ⟨u, r, rfl, h1, h2⟩ := h
    simp [repFV_length h2]
section
variable {X : Cx} {W : WX} {e a b c o : Expr} {es : List Expr} {f g h : EF} {p pos pos' apos : Pos} {fs : En → Mem → R (List Val)} {j k : Nat} {x m cn n : Str} {φ : List Val → Mem → R Val} {cs : List Str}
theorem ve_attr (hf : ∀ cn ∈ cs, Fld X.K X.mg cn n) (he : VE X W e f) (hb : attributeBase e n X.env (eval e X.env) = eval e X.env := by rfl) : VE X W (.Attribute e n pos) (fAttr cs n f) := pe_imp (pe_fld he hb) fun σ H Q hh => by
  refine lift_bind hh fun ρ env M H1 u v es1 r q => ?_
  split at q
  · rename_i C0 gs ei
    split at q
    · rename_i hc
      split at q
      · rename_i x el
        obtain ⟨C, mc, hcl, hna⟩ := (hf _ hc).ex
        obtain ⟨a, C', dx, us, rfl, h, mc', rr⟩ := insOf_rep es1.gs r ei
        have : C' = C := by
          have z : X.mg C0 = some (.ref C') := mc'
          rw [mc] at z; cases z; rfl
        subst this
        have lk := lookF_rep (f := n) rr
        rw [el] at lk
        obtain ⟨y, ly, ry⟩ := lk
        exact ⟨a, C', dx, us, y, rfl, h, hcl, hna, ly, q ρ y H1 .refl es1.gs ry⟩
      · exact q.elim
    · exact q.elim
  · exact q.elim
/-- o.f = value -/
def putA (cs : List Str) (n : Str) (v w : Val) (M : Mem) : Option Mem := match w with
  | .obj k => (match M[k]? with
    | some (.ins C gs) => if C ∈ cs ∧ gs.length < 1000 ∧ noX v = true then some (M.set k (.ins C (putG n v gs))) else none
    | _ => none)
  | _ => none
def sAttr (cs : List Str) (n : Str) (fo fv : EF) : SF := fun e M => rO (fv e M) e fun v M1 => rO (fo e M1) e fun w M2 => match putA cs n v w M2 with
  | some M3 => .nx e M3
  | none => .bad
theorem putA_ok {ρ : Rho} {M M' : Mem} {H : Hp} {x y : V} {v w : Val} (hf : ∀ cn ∈ cs, Fld X.K X.mg cn n) (g : Gs (gm X) ρ M H) (ry : RepV (gm X) ρ M H y v) (rx : RepV (gm X) ρ M H x w) (e : putA cs n v w M = some M') :
    ∃ a C dx us, x = .ref a ∧ H a = some (.ins C dx us) ∧ Cls X.K C ∧ NoAttr X.K C n ∧ us.length < 1000 ∧ Stp ρ M H ρ M' (upd H a (.ins C dx (putF n y us))) ∧ Gs (gm X) ρ M' (upd H a (.ins C dx (putF n y us))) := by
  unfold putA at e
  split at e
  · rename_i k
    split at e
    · rename_i C0 gs el
      split at e
      · rename_i hc
        cases e
        obtain ⟨C, mc, hcl, hna⟩ := (hf _ hc.1).ex
        obtain ⟨C', dx, us, h, mc', rr⟩ := g.at_ k _ el
        have : C' = C := by
          have z : X.mg C0 = some (.ref C') := mc'
          rw [mc] at z; cases z; rfl
        subst this
        have lk : Live M k := ⟨_, el, by intro z; cases z⟩
        have st := write_step g lk (.ins C' dx (putF n y us)) (.ins C0 (putG n v gs))
        exact ⟨_, C', dx, us, rx.1, h, hcl, hna, by rw [repFV_length rr]; exact hc.2.1, st, g.write lk ⟨C', dx, _, upd_same, mc', RepFV.step st (putG_rep (ry.toW hc.2.2) rr)⟩⟩
      · cases e
    · cases e
  · cases e
theorem vs_attr {value : Expr} (hf : ∀ cn ∈ cs, Fld X.K X.mg cn n) (ho : VE X W o f) (hv : VE X W value g) (hs : swapsWith value (some (.Attribute o n pos')) pos.line X.env = pure false := by rfl) : VS X W (.Assign [.Attribute o n pos'] value pos) (sAttr cs n f g) := ps_imp (ps_fld ho hv hs) fun D σ H hh => by
  refine liftS_bind hh fun ρ env M H1 y v es1 ry q => ⟨ρ, env, M, es1, (Kont.toS es1 q).mono (fun x H2 ⟨ρ2, M2, w, s2, es2, rx, q2⟩ => ?_) fun _ _ _ z => z⟩
  split at q2
  · rename_i M3 e3
    obtain ⟨a, C, dx, us, rfl, h, hcl, hna, hl, st, g3⟩ := putA_ok hf es2.gs (ry.step s2) rx e3
    exact ⟨a, C, dx, us, rfl, h, hcl, hna, hl, q2 ρ2 σ _ st (es2.step st g3)⟩
  · exact q2.elim
/-- o.f += value (ints) -/
def sAttrAdd (cs : List Str) (n : Str) (fo fv : EF) : SF := fun e M => rO (fo e M) e fun w M1 => match insOf M1 w with
  | some (C, gs) => if C ∈ cs then (match lookF n gs with
    | some (.d (.int i)) => rO (fv e M1) e fun v M2 => (match v with
      | .d (.int j) => (match insOf M2 w, putA cs n (.d (.int (i + j))) w M2 with
        | some (C2, _), some M3 => if C2 = C then .nx e M3 else .bad
        | _, _ => .bad)
      | _ => .bad)
    | _ => .bad) else .bad
  | none => .bad
theorem vs_attrAdd {value : Expr} (hf : ∀ cn ∈ cs, Fld X.K X.mg cn n) (ho : VE X W o f) (hv : VE X W value g) : VS X W (.AugAssign (.Attribute o n apos) .Add value pos) (sAttrAdd cs n f g) := ps_imp (ps_fldaug ho hv in_add) fun D σ H hh => by
  refine liftS_bind hh fun ρ env M H1 u v es1 r q => ?_
  split at q
  · rename_i C0 gs ei
    split at q
    · rename_i hc
      split at q
      · rename_i i el
        obtain ⟨C, mc, hcl, hna⟩ := (hf _ hc).ex
        obtain ⟨a, C', dx, us, rfl, h, mc', rr⟩ := insOf_rep es1.gs r ei
        have eC : C' = C := by
          have z : X.mg C0 = some (.ref C') := mc'
          rw [mc] at z; cases z; rfl
        subst eC
        have lk := lookF_rep (f := n) rr
        rw [el] at lk
        obtain ⟨y, ly, ry⟩ := lk
        cases ry
        refine ⟨a, C', dx, us, _, rfl, h, hcl, hna, ly, ρ, env, M, es1, (Kont.toS es1 q).mono (fun x H2 ⟨ρ2, M2, w, s2, es2, rx, q2⟩ => ?_) fun _ _ _ z => z⟩
        split at q2
        · rename_i j
          split at q2
          · rename_i C2 gs2 M3 ei2 e3
            split at q2
            · rename_i hcc
              subst hcc
              refine ⟨i, j, rfl, rx, ?_⟩
              obtain ⟨a2, C2, dx2, us2, ea, h2, hcl2, hna2, hl2, st, g3⟩ := putA_ok (v := .d (.int (i + j))) hf (y := .int (i + j)) es2.gs (show V.int (i + j) = V.int (i + j) from rfl) (r.step s2) e3
              cases ea
              obtain ⟨a3, C3, dx3, us3, ea3, h3, mc3, rr3⟩ := insOf_rep es2.gs (r.step s2) ei2
              cases ea3
              have eC3 : C3 = C' := by
                have z : X.mg _ = some (.ref C3) := mc3
                rw [mc] at z; cases z; rfl
              subst eC3
              rw [h2] at h3
              cases h3
              exact ⟨dx2, us2, h2, hl2, q2 ρ2 σ _ st (es2.step st g3)⟩
            · exact q2.elim
          · exact q2.elim
        · exact q2.elim
      · exact q.elim
    · exact q.elim
  · exact q.elim

/-! ### new instances -/
def dFs : List (Str × Val) → Option (List (Str × D))
  | [] => some []
  | (f, .d x) :: r => (dFs r).map ((f, x) :: ·)
  | (_, .obj _) :: _ => none
  | (_, .exc _) :: _ => none
theorem dFs_rep {mg : Mg} {ρ : Rho} {M : Mem} {H : Hp} : ∀ {gs : List (Str × Val)} {us : List (Str × V)} {ds : List (Str × D)}, RepFV mg ρ M H us gs → dFs gs = some ds → RepF mg (SM ρ M) H us ds
  | [], _, _, h, e => by cases e; exact h
  | (f, .obj _) :: _, _, _, _, e => by cases e
  | (f, .exc _) :: _, _, _, _, e => by cases e
  | (f, .d x) :: r, _, _, h, e => by
    simp only [dFs, Option.map_eq_some_iff] at e
    obtain ⟨ds, e, rfl⟩ := e
    obtain ⟨u, us, rfl, h1, h2⟩ := h
    exact ⟨u, us, rfl, h1, dFs_rep h2 e⟩
/-- the new instance never changes from here on -/
noncomputable def mkD (M1 M2 : Mem) : R Val := open Classical in if OkCut M1 M2 then (match M2[M1.length]? with
  | some (.ins C gs) => (match dFs gs with
    | some ds => .ok (.d (.ins C ds)) (M2.take M1.length)
    | none => .bad)
  | _ => .bad) else .bad
noncomputable def mkX (M1 M2 : Mem) (x : Exn) : R Val := open Classical in if OkCut M1 M2 then .err x (M2.take M1.length) else .bad
noncomputable def mkIns (fr : Bool) (cn : Str) (φ : List Val → Mem → R Val) (ws : List Val) (M1 : Mem) : R Val := match φ (.obj M1.length :: ws) (M1 ++ [.ins cn []]) with
  | .ok (.d .non) M2 => if fr = true then mkD M1 M2 else .ok (.obj M1.length) M2
  | .err x M2 => mkX M1 M2 x
  | _ => .bad
noncomputable def fMake (fr : Bool) (cn : Str) (φ : List Val → Mem → R Val) (fs : En → Mem → R (List Val)) : EF := fun e M => rbind (fs e M) (mkIns fr cn φ)
theorem mkIns_ok {ρ : Rho} {M : Mem} {H : Hp} {vs : List V} {ws : List Val} {fr : Bool} {C x dx : Addr} {Q : VK} {E : XK} (hm : X.mg cn = some (.ref C)) (g : Gs (gm X) ρ M H) (r : RepVs (gm X) ρ M H vs ws) (hx : H x = none) (hd : H dx = none) (hne : dx ≠ x)
    (q : Kont (gm X) ρ M H (mkIns fr cn φ ws M) Q E) : spF (gm X) φ (.ref x :: vs) (upd (upd H dx (.own x)) x (.ins C dx [])) (fun v H2 => v = .non ∧ Q (.ref x) H2) E := by
  obtain ⟨s1, g1, n1⟩ := g.alloc hd (.own x)
  have hx1 : upd H dx (.own x) x = none := by rw [upd_ne hne.symm]; exact hx
  have s2 := push_step g1 hx1 (.ins C dx []) (.ins cn [])
  have g2 : Gs (gm X) (rput ρ M.length x) (M ++ [.ins cn []]) (upd (upd H dx (.own x)) x (.ins C dx [])) := g1.push hx1 ⟨C, dx, [], upd_same, hm, rfl⟩
  have st := s1.trans s2
  refine ⟨_, _, .obj M.length :: ws, g2, ⟨_, _, rfl, ⟨by rw [rput_same], by simp⟩, r.step st⟩, ?_⟩
  unfold mkIns at q
  revert q
  cases hφ : φ (.obj M.length :: ws) (M ++ [.ins cn []]) with
  | bad => exact fun q => q
  | err xx M2 =>
    intro q ρ3 cls d H3 s3 g3 rx
    replace q : Kont (gm X) ρ M H (mkX M M2 xx) Q E := q
    unfold mkX at q
    split at q
    · rename_i hk
      obtain ⟨s4, g4⟩ := cut_gs g (st.trans s3) g3 hk
      have k : ∀ a o, H3 a = some o → ¬ SM ρ3 M2 a → H3 a = some o ∧ ¬ SM ρ3 (M2.take M.length) a := fun a o e m => ⟨e, fun z => m (SM_take z)⟩
      refine q ρ3 cls d H3 s4 g4 ?_
      obtain ⟨C1, e1, e2, h⟩ := rx
      exact ⟨C1, e1, e2, h.imp id fun ⟨dd, fs, a, b, c, e⟩ => ⟨dd, fs, a, b, fun z => c (SM_take z), RepF.mono k e⟩⟩
    · exact q.elim
  | ok v M2 =>
    intro q ρ3 u H3 s3 g3 rv
    split at q
    · rename_i M3 e3
      injection e3 with e3 e4
      subst e3; subst e4
      refine ⟨rv, ?_⟩
      have hat : ρ3 M.length = x := (s3.rho _ (by simp)).trans rput_same
      have hlen : M.length < M2.length := Nat.lt_of_lt_of_le (by simp) s3.len
      split at q
      · unfold mkD at q
        split at q
        · rename_i hk
          obtain ⟨s4, g4⟩ := cut_gs g (st.trans s3) g3 hk
          split at q
          · rename_i C0 gs el
            split at q
            · rename_i ds ed
              obtain ⟨Ca, dx2, us, h, mc, rr⟩ := g3.at_ _ _ el
              refine q ρ3 _ H3 s4 g4 ⟨x, Ca, dx2, us, rfl, by rw [← hat]; exact h, fun z => ?_, mc, RepF.mono (fun a o e m => ⟨e, fun z => m (SM_take z)⟩) (dFs_rep rr ed)⟩
              rcases z with z | ⟨i, l, ei⟩
              · exact g3.zlv M.length ⟨_, el, by intro z; cases z⟩ (by rw [hat]; exact z)
              · have := g3.inj i M.length (live_take l).2 ⟨_, el, by intro z; cases z⟩ (ei.trans hat.symm)
                have := (live_take l).1
                omega
            · exact q.elim
          · exact q.elim
        · exact q.elim
      · exact q ρ3 _ H3 (st.trans s3) g3 ⟨by rw [hat], hlen⟩
    · rename_i xx M3 e3
      cases e3
    · exact q.elim
theorem run_mk {C fa : Addr} {fd : FuncData} {ps : List Str} {pins : List (Addr × Obj)} {σ : L2.St} {H : Hp} {s : Shared} {Q : VK} {us : List Value} {vs : List V} {sp : Sp} (mk : Mk X.K C fa) (F : FnOk X.prog X.w X.K X.mg X.base (L2N.CX X.prog X.w) j fa fd ps sp) (hr : Room k X.A) (hk : j + 1 ≤ k) (hb : Binds X.K fd ps [])
    (tk : L2N.Takes X W) (I : Inv X pins σ H s) (r : Vals vs us)
    (hsp : ∀ x dx, H x = none → H dx = none → dx ≠ x → sp (.ref x :: vs) (upd (upd H dx (.own x)) x (.ins C dx [])) (fun v H2 => v = .non ∧ Q (.ref x) H2) (fun c d H' => W c d σ H')) :
    wpAny (model X.prog X.w) X.A (call (.ref C) us) (EP X pins σ Q) X.xe s := by
  have hq := hsp (s.heap.objs.size + 1) s.heap.objs.size (I.hok.fresh (Nat.le_succ _)) (I.hok.fresh (Nat.le_refl _)) (Nat.ne_of_lt (Nat.lt_succ_self _))
  have J := Inv.made (C := C) I
  have r2 : Vals (V.ref (s.heap.objs.size + 1) :: vs) (Value.ref (s.heap.objs.size + 1) :: us) := .cons rfl r
  have hl : (Value.ref (s.heap.objs.size + 1) :: us ++ []).length = ps.length := by
    rw [List.append_nil, ← r2.length]
    exact F.len _ _ _ _ hq
  have hb1 := hb { s with heap := (s.heap.push PySem.W.emptyDict).push (PySem.W.instObj C s.heap.objs.size) } (Value.ref (s.heap.objs.size + 1) :: us) J.kIn hl
  rw [List.append_nil] at hb1
  refine wpAny_call (make_map (f := fa) I.kIn mk.makes mk.init (beq_iff_eq.mp mk.fn) (codeAny_mono (F.run _ X.stack _ _ ⟨Value.ref (s.heap.objs.size + 1) :: us, []⟩ _ _ _ _ ((hr.mono hk).make C us []) (J.env0.make C us []) hb1 r2 hq) fun rr s' hq' => ?_))
  cases rr with
  | error e1 => exact tk e1 s' (L2N.XE.of_call J (fun _ _ _ z => z) hq')
  | ok fl =>
    cases fl with
    | ret u =>
      obtain ⟨v, H', I3, rv, ev, q3⟩ := J.after hq'
      subst ev
      exact ⟨rv, ⟨V.ref (s.heap.objs.size + 1), H', I3, rfl, q3⟩⟩
    | next => exact False.elim hq'
    | brk => exact False.elim hq'
    | cont => exact False.elim hq'
theorem ve_make (fr : Bool) (cc : NCal X.prog X.w X.K X.mg X.base j cn φ) (hr : Room k X.A) (hk : j + 1 ≤ k) (tk : L2N.Takes X W) (ha : VA X W (e :: es) fs) (hg : Gl X cn) (hdb : (cn == ("__debug__" : Str)) = false := by decide)
    (he : starEach (e :: es) X.env = (false, eval e X.env) :: starEach es X.env := by rfl) (hpl : (backTo pos (starEach es X.env)).any (·.1) = false := by rfl) : VE X W (.Call (.Name cn p) (e :: es) [] pos) (fMake fr cn φ fs) := by
  obtain ⟨C, fa, fd, ps, F, hm, mk, hb⟩ := cc.ex
  replace F : FnOk X.prog X.w X.K X.mg X.base (L2N.CX X.prog X.w) j fa fd ps (spF (gm X) φ) := by rw [gm_calm hr.hd]; exact F
  refine ⟨fun pins s σ H Q I hh => ?_⟩
  refine wpAny_Call_Name_kw (ld_glob I hg hm ?_ hdb)
  have h2 : lifts (gm X) W fs σ H (fun vs H1 => ∀ x dx, H1 x = none → H1 dx = none → dx ≠ x → spF (gm X) φ (.ref x :: vs) (upd (upd H1 dx (.own x)) x (.ins C dx [])) (fun v H2 => v = .non ∧ Q (.ref x) H2) (fun c d H' => W c d σ H')) :=
    lifts_bind hh fun ρ env M H1 us ws es1 r q x dx hx hd hne => mkIns_ok hm es1.gs r hx hd hne q
  refine PySem.W.callWith_K (h₀ := X.base) I.ok.mod.kin mk.kp (thn (ha.run pos pins s σ H _ I h2) fun us s1 ⟨vs, H1, I1, r, q⟩ => ⟨I1.kIn, ?_⟩) he hpl
  exact run_mk mk F hr hk hb tk I1 r q
end
end Vl
set_option Elab.async false
set_option linter.all false
set_option maxRecDepth 100000
set_option maxHeartbeats 2000000
/-! Vx0: an own exception over ValueError, over a class of the program perhaps: its __init__ says super().__init__(..), then stores its fields. -/
namespace Vx
open PySem PySem.Spec PySem.Calls PyProof.Rows PySem.W
section
variable {prog : Program} {w : World} {A : Around} {E : Value → Shared → Prop} {h : Heap} {g : Array GenState} {d : Drawn} {t : Nat} {os : OsState}
variable {nm q : Str} {C N : Addr} {bs bm : List Value} {hdct : Bool} {sn : List Str} {sub : List Value} {ab : Bool} {col : Option Bool} {dd : Option Addr} {k0 k1 k2 k3 k5 : Option Value}
/-- the bound ValueError.__init__ is called -/
theorem call_mwV {u e t0 : Addr} {rest : List Value} {Q : Value → Shared → Prop} (hC : h.get? C = some (excClassObj nm q C N bs bm hdct sn sub ab col dd k0 k1 k2 k3 k5 "ValueError.__new__")) (he : h.get? e = some (HandSPX.excO C t0))
    (hu : h.get? u = some (kxs_mw "ValueError.__init__" e)) (hz : rest.length ≤ sizeLine) (k : ∀ h' t1, (∀ b o, b ≠ e → h.get? b = some o → h'.get? b = some o) → h'.get? e = some (HandSPX.excO C t1) → Q .none ⟨h', g, d, t, os⟩) :
    wpAny (model prog w) A (call (.ref u) rest) Q E ⟨h, g, d, t, os⟩ := by
  have FB := F.excBase_ValueError
  refine wpAny_call (codeAny_of_tree ?_)
  show wpAny (model prog w) A.in1 (callAny (.ref u) ⟨rest, []⟩) _ _ _
  simp only [callAny]
  refine wpAny_bind (wpAny_load hu ?_)
  simp only [kxs_mw, show (Value.type "method-wrapper" == Value.type "method" || Value.type "method-wrapper" == Value.type "builtin_function_or_method" || Value.type "method-wrapper" == Value.type "method-wrapper") = true by decide, if_true]
  refine KFB.if_so (by decide) ?_
  refine wpAny_bind (check_bound_init FB.toExcCallFacts hC he rfl ?_)
  refine wpAny_bind (wpAny_pure (wpAny_pure ?_))
  refine ⟨plainId_quiet FB.init.plain _, codeAny_builtin FB.initEntry ?_⟩
  exact exc_init_tree (cls := .ref C) (t0 := t0) (dv := none) (c2 := .none) (c3 := .none) (b4 := .bool false) he hz fun h' k1 e1 _ => k h' h.objs.size k1 e1
end
section
variable {prog : Program} {w : World} {A : Around} {E : Value → Shared → Prop} {K : Frag} {mg : Str → Option Value} {s : Shared} {L fI cc cda C D e t0 : Addr} {m : Str → Option Value} {q : Str} {scope : Scope} {body : List Stmt} {p0 p1 p2 p4 p5 : Pos} {args : List Expr}
  {fd : FuncData} {ar : Arg} {vs : Array Value} {file : Str} {tf : Tok} {oc ccl cl : Value} {od cdd cld : Option Addr} {osl ccs csl : Array (Option Value)} {cdD : ClassData}
  {nm q2 : Str} {N : Addr} {bs bm : List Value} {hdct : Bool} {sn : List Str} {sub : List Value} {ab : Bool} {col : Option Bool} {dd : Option Addr} {k0 k1 k2 k3 k5 : Option Value}
theorem super_stmt {pl : Sem Bool} {Q : Flow → Shared → Prop} {us : List Value} (X : K.In s.heap) (G : s.heap.Ns mainGlobals mg) (hmg : mg "super" = none) (Bt : ∃ mb, s.heap.Ns builtinsNs mb ∧ ∀ x : Str, x ≠ "__name__" → mb x = bootBuiltins x) (hL : s.heap.Ns L m)
    (hf : K.lookup fI = some ⟨oc, od, .func fd, osl⟩) (hp : (fd.params.posonlyargs ++ fd.params.args).head? = some ar) (hv : m ar.arg = some (.ref e)) (he : s.heap.get? e = some (HandSPX.excO C t0))
    (hcode : K.lookup cda = some ⟨ccl, cdd, .fields vs, ccs⟩) (hvs : vs[2]? = some (.str file tf)) (hfile : ((prog.main.file : Str) == file) = true)
    (hcell : K.lookup cc = some ⟨cl, cld, .cell (some (.ref C)), csl⟩) (hC : K.lookup C = some (excClassObj nm q2 C N bs bm hdct sn sub ab col dd k0 k1 k2 k3 k5 "ValueError.__new__"))
    (hsub : mroIn K C (.ref C) = some true) (hsV : subIn K (.ref C) (.type "ValueError") = some true) (hal : alongIn K "__init__" bm = some (some (.builtin "ValueError.__init__"))) (hop : nsIn K cStatics "thirdparty.any" = some none)
    (hks : scope.names.lookup ("super" : Str) = some .globalImplicit) (hkc : scope.names.lookup ("__class__" : Str) = some .free) (hka : scope.names.lookup ar.arg = some .local) (hk : scope.kind = .function)
    (htop : (prog.main.scope.names.lookup ("super" : Str)).isSome = false) (hboot : bootBuiltins "super" = some (.type "super"))
    (hargs : ∀ (s' : Shared) (Q : List Value → Shared → Prop), s'.heap.Ns L m → Q us s' → wpAny (model prog w) A (spliced (backTo p4 (starEach args (ksEnv q scope L fI (.ref cda) cc)))) Q E s')
    (hpl : (backTo p4 (starEach args (ksEnv q scope L fI (.ref cda) cc))).any (·.1) = false) (hne : ∃ x r, backTo p4 (starEach args (ksEnv q scope L fI (.ref cda) cc)) = (false, x) :: r) (hz : us.length ≤ sizeLine) (heL : e ≠ L)
    (heval : eval (.Call (.Attribute (.Call (.Name "super" p0) [] [] p1) "__init__" p2) args [] p4) (ksEnv q scope L fI (.ref cda) cc) = (do
      let ov ← attributeBase (.Call (.Name "super" p0) [] [] p1) "__init__" (ksEnv q scope L fI (.ref cda) cc) (eval (.Call (.Name "super" p0) [] [] p1) (ksEnv q scope L fI (.ref cda) cc))
      standAt p2.atName
      let (f, first) ← holding [ov] (getMethod ov "__init__" pl)
      callWith p4 f first (backTo p4 (starEach args (ksEnv q scope L fI (.ref cda) cc))) []))
    (hsw : swapsWith (.Call (.Attribute (.Call (.Name "super" p0) [] [] p1) "__init__" p2) args [] p4) none p5.line (ksEnv q scope L fI (.ref cda) cc) = pure false) (hint : interactive (ksEnv q scope L fI (.ref cda) cc) = false)
    (k : ∀ h' t1 tk, (∀ b o, b ≠ e → s.heap.get? b = some o → h'.get? b = some o) → h'.get? e = some (HandSPX.excO C t1) → Q .next { s with heap := h', toks := tk }) :
    _root_.PySem.wpAt (model prog w) A (.func body (ksEnv q scope L fI (.ref cda) cc)) (exec (.Expr (.Call (.Attribute (.Call (.Name "super" p0) [] [] p1) "__init__" p2) args [] p4) p5) (ksEnv q scope L fI (.ref cda) cc)) Q E s := by
  obtain ⟨hh, g, d, t, os⟩ := s
  obtain ⟨mb, hb, hbb⟩ := Bt
  have I : InstAt hh e (HandSPX.excO C t0) C none := ⟨he, rfl, rfl, trivial⟩
  have hclC : clsIn K C = some { name := nm, bases := bs, mro := .ref C :: bm, ns := N, qualname := q2, hasDict := hdct, slotNames := sn, subclasses := sub, abstract := ab, collection := col, hasDel := false } := by
    unfold clsIn
    rw [hC] <;> rfl
  have hCh := X _ _ hC
  refine ks_wpAt_Expr_any (ks_wpAt_MethodCall (pl := pl) ?_ heval) hint hsw
  refine ks_wpAt_super_base (env := ksEnv q scope L fI (.ref cda) cc) hks hkc rfl rfl (X _ _ hf) rfl hp rfl (X _ _ hcode) rfl hvs hfile htop ?_
  refine ks_loadName_global hk hks (loadGlobal_builtin (env := ksEnv q scope L fI (.ref cda) cc) G hmg hb ((hbb _ (by decide)).trans hboot) ⟨rfl, ?_⟩)
  refine wpAny_loadName_free hk hkc rfl ⟨_, X _ _ hcell, rfl⟩ ?_
  refine wpAny_loadName_local hk hka hL hv ?_
  refine ks_wpAny_isType_cls hCh rfl ⟨rfl, ?_⟩
  refine ks_wpAny_call_super hCh rfl he rfl (fun c z => nomatch z) (looks_mroIn X hsub) fun h1 e1 kk1 => ?_
  have X1 : K.In h1 := X.keeps kk1
  have I1 : InstAt h1 e (HandSPX.excO C t0) C none := ⟨kk1 _ _ he, rfl, rfl, trivial⟩
  refine kxs_getMethod (B := "ValueError") (i := "ValueError.__init__") (l₀ := .ref C :: bm) (l := bm) kxs_ValueError e1 (looks_opaque X1 hop) ?_ ?_ X1 hal (I1.type.andThen (looks_subIn X1 hsV)) (ks_ne X1 I1 hclC) rfl ?_
  · exact (looks_clsIn X1 hclC).andThen .now
  · simp [List.dropWhile_cons]
  · obtain ⟨x, r, hx⟩ := hne
    have kk2 : ∀ b o, hh.get? b = some o → (h1.push (kxs_mw "ValueError.__init__" e)).get? b = some o := fun b o z => Heap.get?_push_of_some _ (kk1 b o z)
    have hL2 : (h1.push (kxs_mw "ValueError.__init__" e)).Ns L m := hL.keeps kk2
    refine kxs_callWith (i := "ValueError.__init__") (x := e) hpl ?_
    rw [hx]
    refine evalArgs_plain ?_
    rw [← hx]
    refine hargs _ _ hL2 ⟨Heap.get?_push_at rfl rfl, ?_⟩
    show wpAny (model prog w) A (call (.ref h1.objs.size) ([] ++ us)) _ _ _
    rw [List.nil_append]
    exact call_mwV (kk2 _ _ hCh) (kk2 _ _ he) (Heap.get?_push_at rfl rfl) hz fun h' t1 k3 e3 => k h' t1 _ (fun b o hbe z => k3 b o hbe (kk2 b o z)) e3
end
end Vx
set_option Elab.async false
set_option linter.all false
set_option maxRecDepth 100000
set_option maxHeartbeats 2000000
/-! Vx1: such an __init__, run: one field, two fields; what the written part must say. -/
namespace Vx
open PySem PySem.Spec PySem.Calls PyProof.Rows PySem.W
/-- what the written part says of the class -/
structure XCls (K : Frag) (C : Addr) : Prop where
  cls : ∃ nm q N bs bm sn sub ab col dd k0 k1 k2 k3 k5, K.lookup C = some (excClassObj nm q C N bs bm true sn sub ab col dd k0 k1 k2 k3 k5 "ValueError.__new__") ∧ HandSPX.refsVE bm = true ∧ alongIn K "__init__" bm = some (some (.builtin "ValueError.__init__"))
  sa : findIn K (.ref C) "__setattr__" = some (some (.builtin "object.__setattr__"))
  me : mroIn K C (.ref C) = some true
  sV : subIn K (.ref C) (.type "ValueError") = some true
  exC : subIn K (.ref C) (.type "BaseException") = some true
  tyC : typeIn K (.ref C) = some (.type "type")
  kC : keepIn K (.ref C) = true
  op : nsIn K cStatics "thirdparty.any" = some none
def clsB (K : Frag) (C : Addr) : Bool := match K.lookup C with
  | some ⟨.type ty, _, .cls cd, sl⟩ => decide (ty = "type") && match cd.mro, sl.toList with
    | .ref C' :: bm, [_, _, _, _, some (.builtin n), _] => decide (C' = C) && (decide (n = "ValueError.__new__") && (!cd.hasDel && (cd.hasDict && (HandSPX.refsVE bm && decide (alongIn K "__init__" bm = some (some (.builtin "ValueError.__init__")))))))
    | _, _ => false
  | _ => false
def xclsB (K : Frag) (C : Addr) : Bool := clsB K C && (decide (findIn K (.ref C) "__setattr__" = some (some (.builtin "object.__setattr__"))) && (decide (mroIn K C (.ref C) = some true) && (decide (subIn K (.ref C) (.type "ValueError") = some true) &&
  (decide (subIn K (.ref C) (.type "BaseException") = some true) && (decide (typeIn K (.ref C) = some (.type "type")) && (keepIn K (.ref C) && decide (nsIn K cStatics "thirdparty.any" = some none)))))))
theorem ba2 {a b : Bool} (h : (a && b) = true) : a = true ∧ b = true := Bool.and_eq_true_iff.mp h
theorem clsB_ok {K : Frag} {C : Addr} (h : clsB K C = true) : ∃ nm q N bs bm sn sub ab col dd k0 k1 k2 k3 k5, K.lookup C = some (excClassObj nm q C N bs bm true sn sub ab col dd k0 k1 k2 k3 k5 "ValueError.__new__") ∧ HandSPX.refsVE bm = true ∧ alongIn K "__init__" bm = some (some (.builtin "ValueError.__init__")) := by
  unfold clsB at h
  split at h
  · rename_i ty dd cd sl ho
    obtain ⟨h0, h⟩ := ba2 h
    have h0 := of_decide_eq_true h0
    subst h0
    split at h
    · rename_i C' bm k0 k1 k2 k3 n k5 hm hs
      simp only [Bool.and_eq_true, decide_eq_true_eq] at h
      obtain ⟨-, h1, h2, h3, h4, h5, h6⟩ := h
      subst h1 h2
      obtain ⟨nm, bs, mro, ns, qn, hd, sn, sub, ab, col, del⟩ := cd
      dsimp only at hm h3 h4
      subst hm
      have hdel : del = false := by simpa using h3
      subst hdel h4
      have hsl : sl = #[k0, k1, k2, k3, some (.builtin "ValueError.__new__"), k5] := by
        obtain ⟨l⟩ := sl
        simp only at hs
        rw [hs]
      subst hsl
      exact ⟨nm, qn, ns, bs, bm, sn, sub, ab, col, dd, k0, k1, k2, k3, k5, ho, h5, h6⟩
    · cases h
  · cases h
theorem xclsB_ok {K : Frag} {C : Addr} (h : xclsB K C = true) : XCls K C := by
  obtain ⟨h1, h⟩ := ba2 h
  obtain ⟨h2, h⟩ := ba2 h
  obtain ⟨h3, h⟩ := ba2 h
  obtain ⟨h4, h⟩ := ba2 h
  obtain ⟨h5, h⟩ := ba2 h
  obtain ⟨h6, h⟩ := ba2 h
  obtain ⟨h7, h8⟩ := ba2 h
  exact ⟨clsB_ok h1, of_decide_eq_true h2, of_decide_eq_true h3, of_decide_eq_true h4, of_decide_eq_true h5, of_decide_eq_true h6, h7, of_decide_eq_true h8⟩
/-- .. of its __init__ at fI -/
structure XIni (K : Frag) (file : Str) (C fI : Addr) (name qual : Str) (params : Arguments) (body : List Stmt) (scope : Scope) : Prop where
  ex : ∃ (oc : Value) (od : Option Addr) (osl : Array (Option Value)) (kV doc pm : Value) (an : Option Addr) (cda : Addr) (ct : Value) (cc : Addr) (vs : Array Value) (tf : Tok) (ccl cl : Value) (cdd cld : Option Addr) (ccs csl : Array (Option Value)),
    K.lookup fI = some ⟨oc, od, .func (ksFn name qual params body scope .none kV doc pm an (.ref cda) ct cc), osl⟩ ∧ codeIn K (.ref cda) qual = true ∧ K.lookup cda = some ⟨ccl, cdd, .fields vs, ccs⟩ ∧ vs[2]? = some (.str file tf) ∧ K.lookup cc = some ⟨cl, cld, .cell (some (.ref C)), csl⟩
  ini : findIn K (.ref C) "__init__" = some (some (.ref fI))
  fn : typeIn K (.ref fI) = some (.type "function")
abbrev xb (e : Addr) (p : Str) (u : Value) : List (Str × Value) := [(("self" : Str), .ref e), (p, u)]
abbrev xb2 (e : Addr) (p : Str) (u : Value) (p' : Str) (u2 : Value) : List (Str × Value) := [(("self" : Str), .ref e), (p, u), (p', u2)]
/-- the state behind: the exception's own dict bears m -/
def XEnd (s : Shared) (e C : Addr) (m : Str → Option Value) (R : Result → Shared → Prop) : Prop := ∀ h' tk dx t1, (∀ b o, b ≠ e → s.heap.get? b = some o → h'.get? b = some o) → s.heap.objs.size ≤ dx → dx ≠ e →
  h'.get? e = some ({ cls := .ref C, dict := some dx, data := .fields #[.ref t1, .none, .none, .none, .bool false, .none] } : Obj) → h'.Ns1 dx m → R (.ok (.ret .none)) { s with heap := h', toks := tk }
section
variable {prog : Program} {w : World} {A : Around} {R : Result → Shared → Prop} {K : Frag} {mg : Str → Option Value} {s : Shared} {C fI e t0 : Addr} {file name qual : Str} {params : Arguments} {scope : Scope} {u u2 : Value} {p p' pp : Str} {a0 a1 : Arg} {q0 q1 q2 q3 q4 q5 q6 q7 q8 q9 r3 r6 r7 r8 r9 : Pos}
theorem run_init1 {ar : Args} (T : XCls K C) (hroom : A.depth < recursionLimit) (X : K.In s.heap) (G : s.heap.Ns mainGlobals mg) (hmg : mg "super" = none) (Bt : ∃ mb, s.heap.Ns builtinsNs mb ∧ ∀ x : Str, x ≠ "__name__" → mb x = bootBuiltins x) (lim : s.heap.NoLimit)
    (F : XIni K file C fI name qual params [.Expr (.Call (.Attribute (.Call (.Name "super" q0) [] [] q1) "__init__" q2) [.Name p q3] [] q4) q5, .Assign [.Attribute (.Name "self" q6) p q7] (.Name p q8) q9] scope)
    (he : s.heap.get? e = some (HandSPX.excO C t0)) (hfile : ((prog.main.file : Str) == file) = true) (htop : (prog.main.scope.names.lookup ("super" : Str)).isSome = false) (hboot : bootBuiltins "super" = some (.type "super"))
    (hpar : (params.posonlyargs ++ params.args).head? = some a0) (ha0 : a0.arg = "self") (heK : ∀ o, K.lookup e = some o → False) (hself : (p == ("self" : Str)) = false) (hdb : (p == ("__debug__" : Str)) = false)
    (hbind : ∀ (kV doc pm : Value) (an : Option Addr) (cdv ct : Value) (cc : Addr) (body : List Stmt), bindArgs (ksFn name qual params body scope .none kV doc pm an cdv ct cc) ar = pure (xb e p u))
    (hks : scope.names.lookup ("super" : Str) = some .globalImplicit) (hkc : scope.names.lookup ("__class__" : Str) = some .free) (hka : scope.names.lookup ("self" : Str) = some .local) (hkp : scope.names.lookup p = some .local) (hk : scope.kind = .function)
    (hcell : ∀ x ∈ scope.names, x.2 ≠ .cell) (hco : scope.isCoroutine = false) (hgen : scope.isGenerator = false) (hno : findIn K (.ref C) p = some none)
    (hev : ∀ env : Env, ∃ pl, eval (.Call (.Attribute (.Call (.Name "super" q0) [] [] q1) "__init__" q2) [.Name p q3] [] q4) env = (do
      let ov ← attributeBase (.Call (.Name "super" q0) [] [] q1) "__init__" env (eval (.Call (.Name "super" q0) [] [] q1) env)
      standAt q2.atName
      let (f, first) ← holding [ov] (getMethod ov "__init__" pl)
      callWith q4 f first (backTo q4 (starEach [.Name p q3] env)) []))
    (k : XEnd s e C (fun y => if y = p then some u else none) R) : codeAny (model prog w) A (.call (.ref fI) ar) R s := by
  obtain ⟨oc, od, osl, kV, doc, pm, an, cda, ct, cc, vs, tf, ccl, cl, cdd, cld, ccs, csl, hf, hcd, hcode, hvs, hcl⟩ := F.ex
  obtain ⟨nm, q, N, bs, bm, sn, sub, ab, col, dd, k0, k1, k2, k3, k5, hC, hbm, hal⟩ := T.cls
  obtain ⟨mb, hb, hbb⟩ := Bt
  have heL : e ≠ s.heap.objs.size := Nat.ne_of_lt (Heap.lt_size he)
  refine ks_codeAny_call_defAt (fd := ksFn name qual params _ scope .none kV doc pm an (.ref cda) ct cc) (binds := xb e p u) hroom (X _ _ hf) rfl lim (codeRec_of X hcd) rfl (.of_eq (hbind kV doc pm an (.ref cda) ct cc _)) hcell (fun x hx => ?_) (fun h0 hns kk => ?_) hco hgen hk
  · rcases List.mem_cons.mp hx with rfl | hx
    · exact hka
    · rcases List.mem_cons.mp hx with rfl | hx
      · exact hkp
      · cases hx
  have hm0 : (fun x => List.lookup x (xb e p u).reverse) a0.arg = some (.ref e) := by
    rw [ha0]
    have : (("self" : Str) == p) = false := by
      have := hself
      rw [BEq.comm] at this
      exact this
    simp [List.lookup, this]
  have hmp : (fun x => List.lookup x (xb e p u).reverse) p = some u := by simp [List.lookup]
  have X0 : K.In h0 := X.keeps kk
  have ev : ∀ {A : Around} {E : Value → Shared → Prop} {L : Addr} {m : Str → Option Value} {s' : Shared} {Q : Value → Shared → Prop} {po : Pos}, s'.heap.Ns L m → m p = some u → Q u s' → wpAny (model prog w) A (eval (.Name p po) (ksEnv qual scope L fI (.ref cda) cc)) Q E s' := fun hL hm q => wpAny_Name (wpAny_loadName_local hk hkp hL hm q) hdb
  show _root_.PySem.wpAt (model prog w) (A.deeper (ksEnv qual scope s.heap.objs.size fI (.ref cda) cc)) (.func _ (ksEnv qual scope s.heap.objs.size fI (.ref cda) cc)) (execs _ (ksEnv qual scope s.heap.objs.size fI (.ref cda) cc)) _ _ _
  obtain ⟨pl, hpl'⟩ := hev (ksEnv qual scope s.heap.objs.size fI (.ref cda) cc)
  refine ks_wpAt_execs_cons ?_
  refine super_stmt (us := [u]) X0 (G.keeps kk) hmg ⟨mb, hb.keeps kk, hbb⟩ hns hf hpar hm0 (kk _ _ he) hcode hvs hfile hcl hC T.me T.sV hal T.op hks hkc (by rw [ha0]; exact hka) hk htop hboot ?_ rfl ⟨_, _, rfl⟩ (by rw [sizeLine_eq]; show _ + 1 ≤ 16777216; simp) heL hpl' rfl (by unfold interactive; rw [show (ksEnv qual scope s.heap.objs.size fI (.ref cda) cc).scope.kind = .function from hk]; rfl) ?_
  · intro s' Q hL q
    exact spliced_cons (ev hL hmp (spliced_nil q))
  · intro h1 t1 tk kk1 e1
    have hns1 : h1.Ns s.heap.objs.size (fun x => List.lookup x (xb e p u).reverse) := by
      obtain ⟨oL, es, ep, hL, r⟩ := hns
      exact ⟨oL, es, ep, kk1 _ _ (Ne.symm heL) hL, r⟩
    have X1 : K.In h1 := fun b o z => kk1 b o (fun q => heK o (by rw [← q]; exact z)) (X0 b o z)
    refine ks_wpAt_execs_cons (ks_wpAt_Assign_Attr (wpAt_of_wpAny (ev hns1 hmp ?_)) rfl)
    have hms : (fun x => List.lookup x (xb e p u).reverse) ("self" : Str) = some (.ref e) := by rw [← ha0]; exact hm0
    refine wpAny_Name (wpAny_loadName_local hk hka hns1 hms ?_) (by decide)
    have hcl2 : clsIn K C = some { name := nm, bases := bs, mro := .ref C :: bm, ns := N, qualname := q, hasDict := true, slotNames := sn, subclasses := sub, abstract := ab, collection := col, hasDel := false } := by
      unfold clsIn
      rw [hC] <;> rfl
    refine set_plain X1 (C := C) (ox := HandSPX.excO C t1) (od := none) ⟨e1, rfl, rfl, trivial⟩ T.sa ?_
    refine HandSPX.exc_osa X1 e1 hcl2 (show HandSPX.refsVE (.ref C :: bm) = true from hbm) rfl hno fun h2 tk2 dx kk2 hdx hne e2 hn2 => ?_
    refine wpAt_of_wpAny (wpAny_execs_nil ?_)
    have hsz : s.heap.objs.size ≤ h1.objs.size := by
      obtain ⟨oL, es, ep, hL, r⟩ := hns1
      exact Nat.le_of_lt (Heap.lt_size hL)
    exact k h2 tk2 dx t1 (fun b o hb z => kk2 b o hb (kk1 b o hb (kk b o z))) (Nat.le_trans hsz hdx) hne e2 hn2
theorem run_init2 {ar : Args} (T : XCls K C) (hroom : A.depth < recursionLimit) (X : K.In s.heap) (G : s.heap.Ns mainGlobals mg) (hmg : mg "super" = none) (Bt : ∃ mb, s.heap.Ns builtinsNs mb ∧ ∀ x : Str, x ≠ "__name__" → mb x = bootBuiltins x) (lim : s.heap.NoLimit)
    (F : XIni K file C fI name qual params [.Expr (.Call (.Attribute (.Call (.Name "super" q0) [] [] q1) "__init__" q2) [.Name p q3, .Name p' r3] [] q4) q5, .Assign [.Attribute (.Name "self" q6) p q7] (.Name p q8) q9, .Assign [.Attribute (.Name "self" r6) p' r7] (.Name p' r8) r9] scope)
    (he : s.heap.get? e = some (HandSPX.excO C t0)) (hfile : ((prog.main.file : Str) == file) = true) (htop : (prog.main.scope.names.lookup ("super" : Str)).isSome = false) (hboot : bootBuiltins "super" = some (.type "super"))
    (hpar : (params.posonlyargs ++ params.args).head? = some a0) (ha0 : a0.arg = "self") (heK : ∀ o, K.lookup e = some o → False) (hself : (p == ("self" : Str)) = false) (hdb : (p == ("__debug__" : Str)) = false) (hself2 : (p' == ("self" : Str)) = false) (hdb2 : (p' == ("__debug__" : Str)) = false) (hpp : (p == p') = false)
    (hbind : ∀ (kV doc pm : Value) (an : Option Addr) (cdv ct : Value) (cc : Addr) (body : List Stmt), bindArgs (ksFn name qual params body scope .none kV doc pm an cdv ct cc) ar = pure (xb2 e p u p' u2))
    (hks : scope.names.lookup ("super" : Str) = some .globalImplicit) (hkc : scope.names.lookup ("__class__" : Str) = some .free) (hka : scope.names.lookup ("self" : Str) = some .local) (hkp : scope.names.lookup p = some .local) (hkp2 : scope.names.lookup p' = some .local) (hk : scope.kind = .function)
    (hcell : ∀ x ∈ scope.names, x.2 ≠ .cell) (hco : scope.isCoroutine = false) (hgen : scope.isGenerator = false) (hno : findIn K (.ref C) p = some none) (hno2 : findIn K (.ref C) p' = some none)
    (hev : ∀ env : Env, ∃ pl, eval (.Call (.Attribute (.Call (.Name "super" q0) [] [] q1) "__init__" q2) [.Name p q3, .Name p' r3] [] q4) env = (do
      let ov ← attributeBase (.Call (.Name "super" q0) [] [] q1) "__init__" env (eval (.Call (.Name "super" q0) [] [] q1) env)
      standAt q2.atName
      let (f, first) ← holding [ov] (getMethod ov "__init__" pl)
      callWith q4 f first (backTo q4 (starEach [.Name p q3, .Name p' r3] env)) []))
    (k : XEnd s e C (fun y => if y = p' then some u2 else if y = p then some u else none) R) : codeAny (model prog w) A (.call (.ref fI) ar) R s := by
  obtain ⟨oc, od, osl, kV, doc, pm, an, cda, ct, cc, vs, tf, ccl, cl, cdd, cld, ccs, csl, hf, hcd, hcode, hvs, hcl⟩ := F.ex
  obtain ⟨nm, q, N, bs, bm, sn, sub, ab, col, dd, k0, k1, k2, k3, k5, hC, hbm, hal⟩ := T.cls
  obtain ⟨mb, hb, hbb⟩ := Bt
  have heL : e ≠ s.heap.objs.size := Nat.ne_of_lt (Heap.lt_size he)
  refine ks_codeAny_call_defAt (fd := ksFn name qual params _ scope .none kV doc pm an (.ref cda) ct cc) (binds := xb2 e p u p' u2) hroom (X _ _ hf) rfl lim (codeRec_of X hcd) rfl (.of_eq (hbind kV doc pm an (.ref cda) ct cc _)) hcell (fun x hx => ?_) (fun h0 hns kk => ?_) hco hgen hk
  · rcases List.mem_cons.mp hx with rfl | hx
    · exact hka
    · rcases List.mem_cons.mp hx with rfl | hx
      · exact hkp
      · rcases List.mem_cons.mp hx with rfl | hx
        · exact hkp2
        · cases hx
  have hm0 : (fun x => List.lookup x (xb2 e p u p' u2).reverse) a0.arg = some (.ref e) := by
    rw [ha0]
    have : (("self" : Str) == p) = false := by
      have := hself
      rw [BEq.comm] at this
      exact this
    have t2 : (("self" : Str) == p') = false := by
      have := hself2
      rw [BEq.comm] at this
      exact this
    simp [List.lookup, this, t2]
  have hmp : (fun x => List.lookup x (xb2 e p u p' u2).reverse) p = some u := by simp [List.lookup, hpp]
  have hmp2 : (fun x => List.lookup x (xb2 e p u p' u2).reverse) p' = some u2 := by simp [List.lookup]
  have X0 : K.In h0 := X.keeps kk
  have ev : ∀ {A : Around} {E : Value → Shared → Prop} {L : Addr} {m : Str → Option Value} {s' : Shared} {Q : Value → Shared → Prop} {po : Pos}, s'.heap.Ns L m → m p = some u → Q u s' → wpAny (model prog w) A (eval (.Name p po) (ksEnv qual scope L fI (.ref cda) cc)) Q E s' := fun hL hm q => wpAny_Name (wpAny_loadName_local hk hkp hL hm q) hdb
  have ev2 : ∀ {A : Around} {E : Value → Shared → Prop} {L : Addr} {m : Str → Option Value} {s' : Shared} {Q : Value → Shared → Prop} {po : Pos}, s'.heap.Ns L m → m p' = some u2 → Q u2 s' → wpAny (model prog w) A (eval (.Name p' po) (ksEnv qual scope L fI (.ref cda) cc)) Q E s' := fun hL hm q => wpAny_Name (wpAny_loadName_local hk hkp2 hL hm q) hdb2
  show _root_.PySem.wpAt (model prog w) (A.deeper (ksEnv qual scope s.heap.objs.size fI (.ref cda) cc)) (.func _ (ksEnv qual scope s.heap.objs.size fI (.ref cda) cc)) (execs _ (ksEnv qual scope s.heap.objs.size fI (.ref cda) cc)) _ _ _
  obtain ⟨pl, hpl'⟩ := hev (ksEnv qual scope s.heap.objs.size fI (.ref cda) cc)
  refine ks_wpAt_execs_cons ?_
  refine super_stmt (us := [u, u2]) X0 (G.keeps kk) hmg ⟨mb, hb.keeps kk, hbb⟩ hns hf hpar hm0 (kk _ _ he) hcode hvs hfile hcl hC T.me T.sV hal T.op hks hkc (by rw [ha0]; exact hka) hk htop hboot ?_ rfl ⟨_, _, rfl⟩ (by rw [sizeLine_eq]; show _ + 1 ≤ 16777216; simp) heL hpl' rfl (by unfold interactive; rw [show (ksEnv qual scope s.heap.objs.size fI (.ref cda) cc).scope.kind = .function from hk]; rfl) ?_
  · intro s' Q hL q
    exact spliced_cons (ev hL hmp (spliced_cons (ev2 hL hmp2 (spliced_nil q))))
  · intro h1 t1 tk kk1 e1
    have hns1 : h1.Ns s.heap.objs.size (fun x => List.lookup x (xb2 e p u p' u2).reverse) := by
      obtain ⟨oL, es, ep, hL, r⟩ := hns
      exact ⟨oL, es, ep, kk1 _ _ (Ne.symm heL) hL, r⟩
    have X1 : K.In h1 := fun b o z => kk1 b o (fun q => heK o (by rw [← q]; exact z)) (X0 b o z)
    refine ks_wpAt_execs_cons (ks_wpAt_Assign_Attr (wpAt_of_wpAny (ev hns1 hmp ?_)) rfl)
    have hms : (fun x => List.lookup x (xb2 e p u p' u2).reverse) ("self" : Str) = some (.ref e) := by rw [← ha0]; exact hm0
    refine wpAny_Name (wpAny_loadName_local hk hka hns1 hms ?_) (by decide)
    have hcl2 : clsIn K C = some { name := nm, bases := bs, mro := .ref C :: bm, ns := N, qualname := q, hasDict := true, slotNames := sn, subclasses := sub, abstract := ab, collection := col, hasDel := false } := by
      unfold clsIn
      rw [hC] <;> rfl
    refine set_plain X1 (C := C) (ox := HandSPX.excO C t1) (od := none) ⟨e1, rfl, rfl, trivial⟩ T.sa ?_
    refine HandSPX.exc_osa X1 e1 hcl2 (show HandSPX.refsVE (.ref C :: bm) = true from hbm) rfl hno fun h2 tk2 dx kk2 hdx hne e2 hn2 => ?_
    have X2 : K.In h2 := fun b o z => kk2 b o (fun q => heK o (by rw [← q]; exact z)) (X1 b o z)
    have hL1 : ∃ oL, h1.get? s.heap.objs.size = some oL := by
      obtain ⟨oL, es, ep, hL, r⟩ := hns1
      exact ⟨oL, hL⟩
    have hlt : s.heap.objs.size < h1.objs.size := by
      obtain ⟨oL, hL⟩ := hL1
      exact Heap.lt_size hL
    have hns2 : h2.Ns s.heap.objs.size (fun x => List.lookup x (xb2 e p u p' u2).reverse) := by
      obtain ⟨oL, es, ep, hL, r⟩ := hns1
      exact ⟨oL, es, ep, kk2 _ _ (Ne.symm heL) hL, r⟩
    refine ks_wpAt_execs_cons (ks_wpAt_Assign_Attr (wpAt_of_wpAny (ev2 hns2 hmp2 ?_)) rfl)
    refine wpAny_Name (wpAny_loadName_local hk hka hns2 hms ?_) (by decide)
    have W2 : Within (fun y => if y = p then some u else none) [p] := fun y hy => by
      by_cases z : y = p
      · rw [z]; exact List.mem_cons_self
      · dsimp only at hy
        rw [if_neg z] at hy
        exact absurd rfl hy
    obtain ⟨oD, _, _, hoD, _, _⟩ := hn2.count W2
    refine set_plain X2 (C := C) (ox := { cls := .ref C, dict := some dx, data := .fields #[.ref t1, .none, .none, .none, .bool false, .none] }) (od := some oD) ⟨e2, rfl, rfl, hoD⟩ T.sa ?_
    refine PySem.OEX.osa_old X2 e2 hn2 W2 (by show 0 + 1 ≤ 1000; exact Nat.le_of_ble_eq_true rfl) hcl2 (show HandSPX.refsVE (.ref C :: bm) = true from hbm) rfl hno2 fun h3 tk3 kk3 hn3 => ?_
    refine wpAt_of_wpAny (wpAny_execs_nil ?_)
    have hdx' : h1.objs.size ≤ dx := hdx
    exact k h3 tk3 dx t1 (fun b o hb z => kk3 b o (Nat.ne_of_lt (Nat.lt_of_lt_of_le (Heap.lt_size z) (Nat.le_trans (Nat.le_of_lt hlt) hdx))) (kk2 b o hb (kk1 b o hb (kk b o z)))) (Nat.le_trans (Nat.le_of_lt hlt) hdx) hne (kk3 e _ (Ne.symm hne) e2) hn3
end
end Vx
set_option Elab.async false
set_option linter.all false
set_option maxRecDepth 100000
set_option maxHeartbeats 2000000
/-! Vx2: X(e), X(e, f) of such a class: made, raised. -/
namespace Vx
open PySem PySem.Spec PySem.Calls PyProof.Rows L2 Vl
/-- what the world below must be -/
structure Below (K : PySem.W.Frag) (mg : Str → Option Value) (A : Around) (s : Shared) : Prop where
  dp : A.depth < recursionLimit
  kin : K.In s.heap
  glob : s.heap.Ns mainGlobals mg
  blt : ∃ mb, s.heap.Ns builtinsNs mb ∧ ∀ x : Str, x ≠ "__name__" → mb x = bootBuiltins x
  lim : s.heap.NoLimit
/-- the class x, one field / two fields -/
structure ECal1 (P : Program) (w : World) (K : PySem.W.Frag) (mg : Str → Option Value) (x f : Str) : Prop where
  ex : ∃ C fI, mg x = some (.ref C) ∧ XCls K C ∧ PySem.W.findIn K (.ref C) "__init__" = some (some (.ref fI)) ∧ PySem.W.typeIn K (.ref fI) = some (.type "function") ∧ ∀ (A : Around) (s : Shared) (e t0 : Addr) (u : Value) (ar : Args) (R : Result → Shared → Prop), Below K mg A s → (ar = ⟨[.ref e, u], []⟩ ∨ ar = ⟨[.ref e], [(f, u)]⟩) →
    s.heap.get? e = some (HandSPX.excO C t0) → (∀ o, K.lookup e = some o → False) → XEnd s e C (fun y => if y = f then some u else none) R → codeAny (model P w) A (.call (.ref fI) ar) R s
structure ECal2 (P : Program) (w : World) (K : PySem.W.Frag) (mg : Str → Option Value) (x f f' : Str) : Prop where
  ne : f ≠ f'
  ex : ∃ C fI, mg x = some (.ref C) ∧ XCls K C ∧ PySem.W.findIn K (.ref C) "__init__" = some (some (.ref fI)) ∧ PySem.W.typeIn K (.ref fI) = some (.type "function") ∧ ∀ (A : Around) (s : Shared) (e t0 : Addr) (u u2 : Value) (ar : Args) (R : Result → Shared → Prop), Below K mg A s → (ar = ⟨[.ref e, u, u2], []⟩ ∨ ar = ⟨[.ref e], [(f, u), (f', u2)]⟩ ∨ ar = ⟨[.ref e], [(f', u2), (f, u)]⟩) →
    s.heap.get? e = some (HandSPX.excO C t0) → (∀ o, K.lookup e = some o → False) → XEnd s e C (fun y => if y = f' then some u2 else if y = f then some u else none) R → codeAny (model P w) A (.call (.ref fI) ar) R s
section
variable {X : Cx} {pins : List (Addr × Obj)} {σ : L2.St} {H1 : Hp} {Q : XK} {C e : Addr} {fs : List (Str × V)} {m : Str → Option Value} {us : List Value} {hp : Heap} {g : Array GenState} {dr : Drawn} {tk : Nat} {os : OsState}
/-- the end of making: what stands behind it -/
theorem made_end (T : XCls X.K C) (I1 : Inv X pins σ H1 ⟨hp, g, dr, tk, os⟩) (hrel : ∀ f, RelO (fs.lookup f) (m f)) (q : ∀ d, H1 d = none → Q (.ref C) (some d) (upd H1 d (.xd fs))) {h' : Heap} {tk' : Nat} {dx t1 : Addr}
    (k : ∀ b o, b ≠ hp.objs.size + 1 → ((hp.push (PySem.W.kdv_tup us)).push (PySem.HandSPX.excO C hp.objs.size)).get? b = some o → h'.get? b = some o) (hdx : ((hp.push (PySem.W.kdv_tup us)).push (PySem.HandSPX.excO C hp.objs.size)).objs.size ≤ dx)
    (hne : dx ≠ hp.objs.size + 1) (he : h'.get? (hp.objs.size + 1) = some ({ cls := .ref C, dict := some dx, data := .fields #[.ref t1, .none, .none, .none, .bool false, .none] } : Obj)) (hn : h'.Ns1 dx m) :
    L2N.MkP X pins σ Q (.ref (hp.objs.size + 1)) ⟨h', g, dr, tk', os⟩ := by
  obtain ⟨G, g1, g2⟩ := restrict h' fun b => decide (b ≠ hp.objs.size + 1)
  have gk : ∀ b, b ≠ hp.objs.size + 1 → G.get? b = h'.get? b := fun b hb => g1 b (decide_eq_true hb)
  have ge : G.get? (hp.objs.size + 1) = none := g2 _ (by simp)
  have hsz : hp.objs.size ≤ dx := by
    rw [Heap.size_push, Heap.size_push] at hdx
    omega
  have kk : ∀ b o, hp.get? b = some o → G.get? b = some o := fun b o z => by
    have hb : b ≠ hp.objs.size + 1 := Nat.ne_of_lt (Nat.lt_succ_of_lt (Heap.lt_size z))
    rw [gk b hb]
    exact k b o hb (Heap.get?_push_of_some _ (Heap.get?_push_of_some _ z))
  have nd : H1 dx = none := I1.hok.fresh hsz
  have ok : ObjOk X.prog X.w (upd H1 dx (.xd fs)) G dx (.xd fs) := ⟨m, hn.at fun o y => (gk dx hne).trans y, hrel⟩
  have J : Inv X pins σ (upd H1 dx (.xd fs)) ⟨G, g, dr, tk', os⟩ := I1.laid (t' := tk') (a := dx) (o := .xd fs) (h' := G) kk hsz ok
  refine ⟨hp.objs.size + 1, _, _, ⟨G, g, dr, tk', os⟩, _, .ref C, some dx, rfl, J, fun b o z => ?_, ge, he, ⟨rfl, rfl, fun vs hv => ?_⟩, rfl, rfl, ?_, rfl, J.bare, raises_own T.exC T.tyC, q dx nd⟩
  · by_cases hb : b = hp.objs.size + 1
    · rw [hb, ge] at z
      cases z
    · exact (gk b hb).symm.trans z
  · cases hv
    rfl
  · rw [upd_ne (Ne.symm hne)]
    exact I1.hok.fresh (Nat.le_succ _)
end
section
variable {X : Cx} {x f f' : Str} {e e2 : Expr} {ta : TA} {p pos : Pos} {k : Nat}
theorem below_of {pins : List (Addr × Obj)} {σ : L2.St} {H : Hp} {s : Shared} {A : Around} (I : Inv X pins σ H s) (hd : A.depth < recursionLimit) : Below X.K X.mg A s := by
  obtain ⟨mb, h1, h2⟩ := I.mod.blt
  exact ⟨hd, I.kIn, I.mod.glob.keeps I.bk, ⟨mb, h1.keeps I.bk, h2⟩, I.mod.nolimit.keeps I.bk⟩
theorem pmk_x1 (cc : ECal1 X.prog X.w X.K X.mg x f) (hr : Room (k + 1) X.A) (hg : Gl X x) (ha : PA X [e] ta) (hdb : (x == ("__debug__" : Str)) = false := by decide) (he : starEach (e :: []) X.env = (false, eval e X.env) :: starEach [] X.env := by rfl)
    (hpl : (backTo pos (starEach [] X.env)).any (·.1) = false := by rfl) : L2N.PMk X (.Call (.Name x p) [e] [] pos) (fun σ H Q => ta σ H fun vs H1 => ∃ v, vs = [v] ∧ ∃ C, X.mg x = some (.ref C) ∧ ∀ d, H1 d = none → Q (.ref C) (some d) (upd H1 d (.xd [(f, v)]))) := by
  intro pins s σ H Q I h
  obtain ⟨C, fI, hm, T, iC, tI, run⟩ := cc.ex
  obtain ⟨nm, q, N, bs, bm, sn, sub, ab, col, dd, k0, k1, k2, k3, k5, hC, hbm, hal⟩ := T.cls
  refine wpAny_Call_Name_kw (ld_glob I hg hm ?_ hdb)
  refine PySem.W.callWith_K (h₀ := X.base) I.ok.mod.kin T.kC (thn (ha.run pos pins s σ H _ I h) fun us s1 ⟨vs, H1, I1, r1, v, ev, C', hm', q1⟩ => ⟨I1.kIn, ?_⟩) he hpl
  rw [hm] at hm'
  cases hm'
  subst ev
  obtain ⟨u, rfl, ru⟩ := vals1 r1
  show wpAny _ _ (call (.ref C) [u]) _ _ _
  obtain ⟨hp, g, dr, tk, os⟩ := s1
  have hsz : hp.objs.size ≤ hp.objs.size + 1 := Nat.le_succ _
  have hget : ((hp.push (PySem.W.kdv_tup [u])).push (PySem.HandSPX.excO C hp.objs.size)).get? (hp.objs.size + 1) = some (PySem.HandSPX.excO C hp.objs.size) := by heap_get
  have kk : ∀ b o, hp.get? b = some o → ((hp.push (PySem.W.kdv_tup [u])).push (PySem.HandSPX.excO C hp.objs.size)).get? b = some o := fun b o e => Heap.get?_push_of_some _ (Heap.get?_push_of_some _ e)
  have I2 : Inv X pins σ (upd H1 (hp.objs.size + 1) (exo (hp.objs.size + 1) C none)) ⟨(hp.push (PySem.W.kdv_tup [u])).push (PySem.HandSPX.excO C hp.objs.size), g, dr, tk, os⟩ :=
    I1.laid (t' := tk) (a := hp.objs.size + 1) (o := exo (hp.objs.size + 1) C none) (h' := (hp.push (PySem.W.kdv_tup [u])).push (PySem.HandSPX.excO C hp.objs.size)) kk hsz (exo_ok hget)
  refine wpAny_call (PySem.HandSPX.call_own F.excBase_ValueError (fun Y => PySem.HandSPX.refsVE_contains Y bm hbm) (I1.kIn _ _ hC) (PySem.W.looks_findIn I1.kIn iC) (fun self => PySem.W.bind_fn I1.kIn self tI) (by rw [sizeLine_eq]; show _ + 1 ≤ 16777216; simp)
    (run _ _ _ _ u _ _ (below_of I2 (hr.make C [u] []).depth) (.inl rfl) hget (fun o z => ?_) fun h' tk' dx t1 k1 hdx hne he' hn' => ?_))
  · have z2 := I1.kIn _ _ z
    exact absurd (Heap.lt_size z2) (by show ¬ hp.objs.size + 1 < hp.objs.size; omega)
  · refine ⟨rfl, ?_⟩
    exact made_end T I1 (m := fun y => if y = f then some u else none) (fs := [(f, v)]) (relO_put (fs := []) ru fun g => True.intro) q1 k1 hdx hne he' hn'
theorem pmk_x2 (cc : ECal2 X.prog X.w X.K X.mg x f f') (hr : Room (k + 1) X.A) (hg : Gl X x) (ha : PA X [e, e2] ta) (hdb : (x == ("__debug__" : Str)) = false := by decide) (he : starEach (e :: [e2]) X.env = (false, eval e X.env) :: starEach [e2] X.env := by rfl)
    (hpl : (backTo pos (starEach [e2] X.env)).any (·.1) = false := by rfl) : L2N.PMk X (.Call (.Name x p) [e, e2] [] pos) (fun σ H Q => ta σ H fun vs H1 => ∃ v v2, vs = [v, v2] ∧ ∃ C, X.mg x = some (.ref C) ∧ ∀ d, H1 d = none → Q (.ref C) (some d) (upd H1 d (.xd [(f', v2), (f, v)]))) := by
  intro pins s σ H Q I h
  obtain ⟨C, fI, hm, T, iC, tI, run⟩ := cc.ex
  obtain ⟨nm, q, N, bs, bm, sn, sub, ab, col, dd, k0, k1, k2, k3, k5, hC, hbm, hal⟩ := T.cls
  refine wpAny_Call_Name_kw (ld_glob I hg hm ?_ hdb)
  refine PySem.W.callWith_K (h₀ := X.base) I.ok.mod.kin T.kC (thn (ha.run pos pins s σ H _ I h) fun us s1 ⟨vs, H1, I1, r1, v, v2, ev, C', hm', q1⟩ => ⟨I1.kIn, ?_⟩) he hpl
  rw [hm] at hm'
  cases hm'
  subst ev
  cases r1 with
  | @cons _ u _ ur ru rr =>
  obtain ⟨u2, rfl, ru2⟩ := vals1 rr
  show wpAny _ _ (call (.ref C) [u, u2]) _ _ _
  obtain ⟨hp, g, dr, tk, os⟩ := s1
  have hsz : hp.objs.size ≤ hp.objs.size + 1 := Nat.le_succ _
  have hget : ((hp.push (PySem.W.kdv_tup [u, u2])).push (PySem.HandSPX.excO C hp.objs.size)).get? (hp.objs.size + 1) = some (PySem.HandSPX.excO C hp.objs.size) := by heap_get
  have kk : ∀ b o, hp.get? b = some o → ((hp.push (PySem.W.kdv_tup [u, u2])).push (PySem.HandSPX.excO C hp.objs.size)).get? b = some o := fun b o e => Heap.get?_push_of_some _ (Heap.get?_push_of_some _ e)
  have I2 : Inv X pins σ (upd H1 (hp.objs.size + 1) (exo (hp.objs.size + 1) C none)) ⟨(hp.push (PySem.W.kdv_tup [u, u2])).push (PySem.HandSPX.excO C hp.objs.size), g, dr, tk, os⟩ :=
    I1.laid (t' := tk) (a := hp.objs.size + 1) (o := exo (hp.objs.size + 1) C none) (h' := (hp.push (PySem.W.kdv_tup [u, u2])).push (PySem.HandSPX.excO C hp.objs.size)) kk hsz (exo_ok hget)
  refine wpAny_call (PySem.HandSPX.call_own F.excBase_ValueError (fun Y => PySem.HandSPX.refsVE_contains Y bm hbm) (I1.kIn _ _ hC) (PySem.W.looks_findIn I1.kIn iC) (fun self => PySem.W.bind_fn I1.kIn self tI) (by rw [sizeLine_eq]; show _ + 1 ≤ 16777216; simp)
    (run _ _ _ _ u u2 _ _ (below_of I2 (hr.make C [u, u2] []).depth) (.inl rfl) hget (fun o z => ?_) fun h' tk' dx t1 k1 hdx hne he' hn' => ?_))
  · have z2 := I1.kIn _ _ z
    exact absurd (Heap.lt_size z2) (by show ¬ hp.objs.size + 1 < hp.objs.size; omega)
  · refine ⟨rfl, ?_⟩
    refine made_end T I1 (m := fun y => if y = f' then some u2 else if y = f then some u else none) (fs := [(f', v2), (f, v)]) (relO_put (fs := [(f, v)]) ru2 (relO_put (fs := []) ru fun g => True.intro)) q1 k1 hdx hne he' hn'
end
end Vx
set_option Elab.async false
set_option linter.all false
set_option maxRecDepth 100000
set_option maxHeartbeats 4000000
/-! Vx3: try with several clauses, named or not. -/
namespace Vx
open PySem PySem.Spec PySem.Calls PyProof.Rows L2
abbrev goneAt (D : Ends) (i : Nat) : Ends := { nx := fun σ' H' => D.nx (σ'.set i none) H', rt := D.rt, bk := fun σ' H' => D.bk (σ'.set i none) H', ct := fun σ' H' => D.ct (σ'.set i none) H' }
/-- what the clauses wish, one behind the other -/
def wAny (K : PySem.W.Frag) (Wout : WX) (D : Ends) : List (Value × Option Nat × (Addr → Value → Option Addr → TS)) → WX
  | [] => Wout
  | (c, o, ts) :: r => fun cls d σ H => ∃ b, PySem.W.exmOne K cls c = some b ∧ (b = true → ∀ a, H a = none → match o with
      | none => ts a cls d D σ H
      | some i => ts a cls d (goneAt D i) (σ.set i (some (.ref a))) H) ∧ (b = false → wAny K Wout D r cls d σ H)
inductive AnyOk (X : Cx) : List ExceptHandler → List (Value × Option Nat × (Addr → Value → Option Addr → TS)) → Prop
  | nil : AnyOk X [] []
  | only {x : Str} {c : Value} {ts : Addr → Value → Option Addr → TS} {b₀ : Stmt} {suite : List Stmt} {np pos' : Pos} {hds : List ExceptHandler} {l} (hc : Names X x c)
      (hsu : ∀ (a : Addr) (oe : Obj) (cls : Value) (d : Option Addr) (pn : List (Addr × Obj)), L2N.Zn cls d oe → (∃ vs, oe.data = .fields vs) → PSs (X.suite a ((a, oe) :: pn)) (b₀ :: suite) (ts a cls d)) (r : AnyOk X hds l) :
      AnyOk X (.ExceptHandler (some (.Name x np)) none (b₀ :: suite) pos' :: hds) ((c, none, ts) :: l)
  | named {x n : Str} {i : Nat} {c : Value} {ts : Addr → Value → Option Addr → TS} {b₀ : Stmt} {suite : List Stmt} {np pos' : Pos} {hds : List ExceptHandler} {l} (hc : Names X x c) (hN : X.N.Nodup) (hi : X.N[i]? = some n) (hln : X.env.kindOf n = some .local)
      (hsu : ∀ (a : Addr) (oe : Obj) (cls : Value) (d : Option Addr) (pn : List (Addr × Obj)), L2N.Zn cls d oe → (∃ vs, oe.data = .fields vs) → PSs (X.suite a ((a, oe) :: pn)) (b₀ :: suite) (ts a cls d)) (r : AnyOk X hds l) :
      AnyOk X (.ExceptHandler (some (.Name x np)) (some n) (b₀ :: suite) pos' :: hds) ((c, some i, ts) :: l)
section
variable {X : Cx} {body : List Stmt} {h₀ : ExceptHandler} {hds : List ExceptHandler} {l : List (Value × Option Nat × (Addr → Value → Option Addr → TS))} {pos : Pos} {tb : WX → TS} {Wout : WX}
theorem ps_try_any (hs : X.stack = X.env :: X.outer) (hf : X.env.frame = some X.env.locals) (tk : L2N.Takes X Wout)
    (hb : ∀ (W : WX) (pn : List (Addr × Obj)) (xe : Value → Shared → Prop), L2N.Takes (X.tr pn xe) W → PassesOwn (model X.prog X.w) X.A X.env xe → PSs (X.tr pn xe) body (tb W))
    (hh : AnyOk X (h₀ :: hds) l) : PS X (.Try body (h₀ :: hds) [] [] pos) (fun D σ H => tb (wAny X.K Wout D l) D σ H) := by
  refine ⟨fun pins s σ H D Jn h => ?_⟩
  have okq := Jn.ok
  have hfq : X.A.frames = some (X.env :: X.outer) := by rw [okq.frames, hs]
  refine wpAny_Try_except ?_
  refine wpAny_mono ((hb (wAny X.K Wout D l) (X.pn ++ pins) (fun e s₁ => wpAny (model X.prog X.w) X.A (noteFrame e X.env) (fun _ s₂ => wpAny (model X.prog X.w) X.A (setFlight e none) (fun _ s₃ =>
    wpAny (model X.prog X.w) X.A (handleBy e X.env (h₀ :: hds)) (SP X pins D) X.xe s₃) X.xe s₂) X.xe s₁) (fun u s' xq => ?_) PassesOwn.looking).run [] s σ H D (Jn.toTry _) h) (fun f s1 hpq => ?_) (fun e s1 he => he)
  · -- the catch
    obtain ⟨aa, Bq, sI, pinq, σ', H', cls, d, rfl, J', nb, up, skq, na, os, ag, w⟩ := xq
    have Iq : Inv X pins σ' H' sI := J'.ofTry okq
    have sky' : Sky Bq (X.env :: X.outer) aa (L2N.Zn cls d) X.env.locals s'.heap := by rw [← hs]; exact skq
    show wpAny (model X.prog X.w) X.A (noteFrame (.ref aa) X.env) _ _ _
    refine L2N.Sky.land L2N.Zn.steady hfq hf sky' fun h3 gq3 vq3 => ?_
    have Kq3 : Inv X pins σ' H' { s' with heap := h3 } := Iq.landed nb gq3.1 (up.trans vq3) os ag
    obtain ⟨oq3, wq3, eq3, zq3, dq3⟩ := gq3.there
    have outF : ∀ {h : Heap} {o : Obj} {vs : Array Value}, h.FunFrames Bq (X.env :: X.outer) → h.get? aa = some o → o.data = .fields vs → aa ∉ frs (X.env :: X.outer) := fun {h o vs} ff e dd hm => by
      obtain ⟨_, o', e', hnf⟩ := ff.mem hm
      rw [e] at e'; cases e'
      exact hnf _ dd
    have nfq := outF gq3.2.2.1 eq3 dq3
    have aLq : aa ≠ X.env.locals := fun z => nfq (List.mem_filterMap.mpr ⟨X.env, List.mem_cons_self, by rw [hf, z]⟩)
    have aFq : aa ∉ X.fs := fun hm => by
      obtain ⟨e, he, q⟩ := List.mem_filterMap.mp hm
      exact nfq (List.mem_filterMap.mpr ⟨e, List.mem_cons_of_mem _ he, q⟩)
    have Tq3 := Kq3.suite eq3 dq3 na aLq aFq
    have go : ∀ {hds' : List ExceptHandler} {l' : List (Value × Option Nat × (Addr → Value → Option Addr → TS))}, AnyOk X hds' l' → wAny X.K Wout D l' cls d σ' H' →
        wpAny (model X.prog X.w) X.A (handleBy (.ref aa) X.env hds') (SP X pins D) X.xe { s' with heap := h3 } := by
      intro hds' l' hk
      induction hk with
      | nil =>
        intro w
        refine wpAny_handleBy_nil ?_
        obtain ⟨k1, k2, k3, oe, vs, T, oT, ts', he, hz, hd, h1, hr⟩ := id gq3
        unfold PySem.passOn
        refine wpAny_bind (wpAny_field he hd h1 ?_)
        rw [if_neg (show ¬ ((Value.ref T == Value.none) = true) from by simp)]
        have finq : wpAny (model X.prog X.w) X.A (setFlight (.ref aa) X.env.frame) (fun _ s4 => wpAny (model X.prog X.w) X.A (throw (.ref aa) : Sem Flow) (SP X pins D) X.xe s4) X.xe { s' with heap := h3 } := by
          rw [hf]
          refine HandSPX.setFlight_upZ gq3 fun h4 hh4 vq4 => wpAny_throw (tk _ _ ?_)
          exact ⟨aa, Bq, sI, pins, σ', H', cls, d, rfl, Iq, nb, (up.trans vq3).trans vq4, .inr (.inr (by rw [hs]; exact hh4)), na, os, ag, w⟩
        first
          | exact wpAny_bind (wpAny_pure (wpAny_bind finq))
          | exact wpAny_bind finq
      | @only x c ts b₀ suite np pos' hds2 l2 hc hsu r ih =>
        intro w
        obtain ⟨b, hbq, yesq, noq⟩ := w
        refine wpAny_handleBy_cons (codeAny_handlers_test ?_) (by intro q; cases q)
        have LTq : PySem.W.Looks (model X.prog X.w) h3 (typeOf (.ref aa)) cls := fun A Q E s k q => wpAny_typeOf_ref (k _ _ eq3) (by rw [zq3.1]; exact q)
        have LMq := PySem.W.exm_one (M := model X.prog X.w) (Kq3.kIn) LTq hbq
        have tst : ∀ {Q : Value → Shared → Prop} {E : Value → Shared → Prop}, Q c { s' with heap := h3 } → wpAny (model X.prog X.w) (X.A.mark (some (.ref aa))) (eval (.Name x np) X.env) Q E { s' with heap := h3 } := fun {Q E} q => by
          obtain ⟨hg, hdbg, hm | ⟨hm, hv, hnn⟩⟩ := hc
          · exact ld_glob (X := X.suite aa ((aa, oq3) :: (X.pn ++ pins))) Tq3 hg hm q hdbg
          · exact ld_blt (X := X.suite aa ((aa, oq3) :: (X.pn ++ pins))) Tq3 hg hm hv q hnn hdbg
        refine tst (LMq.here ?_)
        cases b with
        | true =>
          refine codeAny_handlers_suite ?_
          refine HandSPX.lands_againZ gq3 fun h4 gq4 vq4 => ?_
          have Kq4 : Inv X pins σ' H' { s' with heap := h4 } := Iq.landed nb gq4.1 ((up.trans vq3).trans vq4) os ag
          obtain ⟨oq4, vs4, eq4, zq4, dq4⟩ := gq4.there
          have Tq4 := Kq4.suite eq4 dq4 na aLq aFq
          refine wpAny_mono ((hsu aa oq4 cls d (X.pn ++ pins) zq4 ⟨_, dq4⟩).run [] _ _ H' _ Tq4 (yesq rfl aa na)) (fun f s6 hpq => ?_) (fun _ _ z => False.elim z)
          cases f with
          | next =>
            obtain ⟨σ6, H6, Tq6, wq6⟩ := hpq
            exact ⟨_, _, Tq6.unsuite okq, wq6⟩
          | brk =>
            obtain ⟨σ6, H6, Tq6, wq6⟩ := hpq
            exact ⟨_, _, Tq6.unsuite okq, wq6⟩
          | cont =>
            obtain ⟨σ6, H6, Tq6, wq6⟩ := hpq
            exact ⟨_, _, Tq6.unsuite okq, wq6⟩
          | ret u =>
            obtain ⟨v6, σ6, H6, Tq6, r6, wq6⟩ := hpq
            exact ⟨_, _, _, Tq6.unsuite okq, r6, wq6⟩
        | false =>
          show wpAny _ X.A (handleBy (.ref aa) X.env hds2) _ _ _
          exact ih (noq rfl)
      | @named x n i c ts b₀ suite np pos' hds2 l2 hc hN hi hln hsu r ih =>
        intro w
        obtain ⟨b, hbq, yesq, noq⟩ := w
        refine wpAny_handleBy_cons (codeAny_handlers_test ?_) (by intro q; cases q)
        have LTq : PySem.W.Looks (model X.prog X.w) h3 (typeOf (.ref aa)) cls := fun A Q E s k q => wpAny_typeOf_ref (k _ _ eq3) (by rw [zq3.1]; exact q)
        have LMq := PySem.W.exm_one (M := model X.prog X.w) (Kq3.kIn) LTq hbq
        have tst : ∀ {Q : Value → Shared → Prop} {E : Value → Shared → Prop}, Q c { s' with heap := h3 } → wpAny (model X.prog X.w) (X.A.mark (some (.ref aa))) (eval (.Name x np) X.env) Q E { s' with heap := h3 } := fun {Q E} q => by
          obtain ⟨hg, hdbg, hm | ⟨hm, hv, hnn⟩⟩ := hc
          · exact ld_glob (X := X.suite aa ((aa, oq3) :: (X.pn ++ pins))) Tq3 hg hm q hdbg
          · exact ld_blt (X := X.suite aa ((aa, oq3) :: (X.pn ++ pins))) Tq3 hg hm hv q hnn hdbg
        refine tst (LMq.here ?_)
        cases b with
        | true =>
          refine codeAny_handlers_suite_as ?_
          refine HandSPX.lands_againZ gq3 fun h4 gq4 vq4 => ?_
          have Kq4 : Inv X pins σ' H' { s' with heap := h4 } := Iq.landed nb gq4.1 ((up.trans vq3).trans vq4) os ag
          obtain ⟨oq4, vs4, eq4, zq4, dq4⟩ := gq4.there
          have Tq4 := Kq4.suite eq4 dq4 na aLq aFq
          refine store_ok (X := X.suite aa ((aa, oq4) :: (X.pn ++ pins))) (v := .ref aa) Tq4 hN hi (.inl hln) rfl (fun s5 Tq5 => ?_) (.inr hln)
          refine wpAny_mono ((hsu aa oq4 cls d (X.pn ++ pins) zq4 ⟨_, dq4⟩).run [] s5 _ H' _ Tq5 (yesq rfl aa na)) (fun f s6 hpq => ?_) (fun _ _ z => False.elim z)
          have endq : ∀ {σ6 : L2.St} {H6 : Hp} {Q : Shared → Prop}, Inv (X.suite aa ((aa, oq4) :: (X.pn ++ pins))) [] σ6 H6 s6 → (∀ s7, Inv X pins (σ6.set i none) H6 s7 → Q s7) →
              wpAny (model X.prog X.w) X.A (do bindName X.env n .none; unbindBehindTheSuite X.env n pos') (fun _ s7 => Q s7) X.xe s6 := fun {σ6 H6 Q} Tq6 hq => gone_ok (Tq6.unsuite okq) hN hi hln hq
          cases f with
          | next =>
            obtain ⟨σ6, H6, Tq6, wq6⟩ := hpq
            exact endq Tq6 fun s7 Iq7 => ⟨_, _, Iq7, wq6⟩
          | brk =>
            obtain ⟨σ6, H6, Tq6, wq6⟩ := hpq
            exact endq Tq6 fun s7 Iq7 => ⟨_, _, Iq7, wq6⟩
          | cont =>
            obtain ⟨σ6, H6, Tq6, wq6⟩ := hpq
            exact endq Tq6 fun s7 Iq7 => ⟨_, _, Iq7, wq6⟩
          | ret u =>
            obtain ⟨v6, σ6, H6, Tq6, r6, wq6⟩ := hpq
            exact endq Tq6 fun s7 Iq7 => ⟨_, _, _, Iq7, r6, wq6⟩
        | false =>
          show wpAny _ X.A (handleBy (.ref aa) X.env hds2) _ _ _
          exact ih (noq rfl)
    exact go hh w
  · cases f with
    | next =>
      obtain ⟨σ', H', J', q⟩ := hpq
      exact wpAny_execs_nil ⟨σ', H', J'.ofTry okq, q⟩
    | brk =>
      obtain ⟨σ', H', J', q⟩ := hpq
      exact ⟨σ', H', J'.ofTry okq, q⟩
    | cont =>
      obtain ⟨σ', H', J', q⟩ := hpq
      exact ⟨σ', H', J'.ofTry okq, q⟩
    | ret u =>
      obtain ⟨v, σ', H', J', r, q⟩ := hpq
      exact ⟨v, σ', H', J'.ofTry okq, r, q⟩
end
end Vx
set_option Elab.async false
set_option linter.all false
set_option maxRecDepth 100000
set_option maxHeartbeats 2000000
/-! Vx4: raise, try as functions; a caught exception's fields. -/
namespace Vl
open PySem PySem.Spec PyProof.Rows L2 Vx

section
variable {m : Str → Option Value} {K : PySem.W.Frag} {h h' : Option (Addr × Value × Option Addr)} {S : Addr → Prop} {H : Hp}
mutual
theorem Rep.hd {v : V} : ∀ {d : D}, Rep ⟨m, K, h⟩ S H v d → Rep ⟨m, K, h'⟩ S H v d
  | .non, q => q
  | .bl _, q => q
  | .int _, q => q
  | .str _, q => q
  | .tup ds, q => by obtain ⟨a, us, e, r, n, z⟩ := q; exact ⟨a, us, e, r, n, RepL.hd z⟩
  | .scr ns, q => q
  | .lst ds, q => by obtain ⟨a, us, e, r, n, z⟩ := q; exact ⟨a, us, e, r, n, RepL.hd z⟩
  | .dct ps, q => by obtain ⟨a, us, e, r, n, z⟩ := q; exact ⟨a, us, e, r, n, RepP.hd z⟩
  | .ins C gs, q => by obtain ⟨a, Ca, dx, fs, e, r, n, mm, z⟩ := q; exact ⟨a, Ca, dx, fs, e, r, n, mm, RepF.hd z⟩
  | .glo x, q => q
theorem RepL.hd {us : List V} : ∀ {ds : List D}, RepL ⟨m, K, h⟩ S H us ds → RepL ⟨m, K, h'⟩ S H us ds
  | [], q => q
  | d :: ds, q => by obtain ⟨u, r, e, h1, h2⟩ := q; exact ⟨u, r, e, Rep.hd h1, RepL.hd h2⟩
theorem RepP.hd {us : List (Key × V)} : ∀ {ds : List (Key × D)}, RepP ⟨m, K, h⟩ S H us ds → RepP ⟨m, K, h'⟩ S H us ds
  | [], q => q
  | (_, d) :: ds, q => by obtain ⟨u, r, e, h1, h2⟩ := q; exact ⟨u, r, e, Rep.hd h1, RepP.hd h2⟩
theorem RepF.hd {us : List (Str × V)} : ∀ {ds : List (Str × D)}, RepF ⟨m, K, h⟩ S H us ds → RepF ⟨m, K, h'⟩ S H us ds
  | [], q => q
  | (_, d) :: ds, q => by obtain ⟨u, r, e, h1, h2⟩ := q; exact ⟨u, r, e, Rep.hd h1, RepF.hd h2⟩
end
end
section
variable {m : Str → Option Value} {K : PySem.W.Frag} {h h' : Option (Addr × Value × Option Addr)} {ρ : Rho} {M : Mem} {H : Hp} {u : V} {v : Val}
theorem RepW.hd (q : RepW ⟨m, K, h⟩ ρ M H u v) : RepW ⟨m, K, h'⟩ ρ M H u v := by
  cases v with
  | d x => exact Rep.hd (d := x) q
  | obj k => exact q
  | exc x => exact q
theorem RepFV.hd : ∀ {vs : List (Str × Val)} {us : List (Str × V)}, RepFV ⟨m, K, h⟩ ρ M H us vs → RepFV ⟨m, K, h'⟩ ρ M H us vs
  | [], _, q => q
  | (_, v) :: vs, _, q => by obtain ⟨u, r, e, h1, h2⟩ := q; exact ⟨u, r, e, h1.hd, RepFV.hd h2⟩
theorem RepO.hd {a : Addr} {o : MO} (q : RepO ⟨m, K, h⟩ ρ M H a o) : RepO ⟨m, K, h'⟩ ρ M H a o := by
  cases o with
  | lst ds => obtain ⟨us, e, z⟩ := q; exact ⟨us, e, RepL.hd z⟩
  | dct ds => obtain ⟨us, e, z⟩ := q; exact ⟨us, e, RepP.hd z⟩
  | ins C gs => obtain ⟨Ca, dx, fs, e, mm, z⟩ := q; exact ⟨Ca, dx, fs, e, mm, z.hd⟩
  | dead => trivial
theorem Gs.hd (g : Gs ⟨m, K, h⟩ ρ M H) : Gs ⟨m, K, h'⟩ ρ M H := ⟨fun k o e => (g.at_ k o e).hd, g.inj, g.zin, g.zlv⟩
theorem RepX.hd {cls : Value} {dd : Option Addr} {x : Exn} (q : RepX ⟨m, K, h⟩ ρ M H cls dd x) : RepX ⟨m, K, h'⟩ ρ M H cls dd x := by
  obtain ⟨C, e1, e2, z⟩ := q
  exact ⟨C, e1, e2, z.imp id fun ⟨d, fs, a, b, c, e⟩ => ⟨d, fs, a, b, c, RepF.hd e⟩⟩
theorem RepV.hd (q : RepV ⟨m, K, h⟩ ρ M H u v) (n : noX v = true) : RepV ⟨m, K, h'⟩ ρ M H u v := (q.toW n).hd.toV
theorem RepV.clean (q : RepV ⟨m, K, none⟩ ρ M H u v) : noX v = true := by
  cases v with
  | d x => rfl
  | obj k => rfl
  | exc x => obtain ⟨a, cls, dd, e, _⟩ := q; cases e
theorem Es.hd {env : En} {σ : L2.St} (es : Es ⟨m, K, none⟩ ρ env M σ H) : Es ⟨m, K, h⟩ ρ env M σ H :=
  ⟨es.gs.hd, fun i v e => let ⟨u, a, b⟩ := es.sl i v e; ⟨u, a, b.hd b.clean⟩, es.len⟩
end

/-! ### raise -/
section
variable {X : Cx} {W : WX} {e e2 : Expr} {f g : EF} {p pos pos' : Pos} {k : Nat} {x n n' : Str}
def exn1 (x n : Str) (e : En) (v : Val) (M : Mem) : O := match v with
  | .d y => .er ⟨x, [(n, y)]⟩ e M
  | _ => .bad
def sRaise1 (x n : Str) (f : EF) : SF := fun e M => rO (f e M) e fun v M1 => exn1 x n e v M1
theorem vs_raise1 (cc : ECal1 X.prog X.w X.K X.mg x n) (hr : Room (k + 1) X.A) (hc : X.calm = true) (tk : L2N.Takes X W) (hg : Gl X x) (he : VE X W e f) (hdb : (x == ("__debug__" : Str)) = false := by decide)
    (hs : starEach (e :: []) X.env = (false, eval e X.env) :: starEach [] X.env := by rfl) (hpl : (backTo pos (starEach [] X.env)).any (·.1) = false := by rfl) : VS X W (.Raise (some (.Call (.Name x p) [e] [] pos)) none pos') (sRaise1 x n f) :=
  ps_imp (L2N.ps_raise hc tk (pmk_x1 cc hr hg (pa_cons he pa_nil hs) hdb hs hpl)) fun D σ H h => by
    obtain ⟨C, _, hm, _⟩ := cc.ex
    refine liftS_bind h fun ρ env M H1 u v es rv q => ⟨u, rfl, C, hm, fun d hd => ?_⟩
    unfold exn1 at q
    split at q
    · rename_i y
      obtain ⟨s1, g1, n1⟩ := es.gs.alloc hd (.xd [(n, u)])
      exact q ρ σ _ _ _ s1 (es.step s1 g1) ⟨C, hm, rfl, .inr ⟨d, _, rfl, upd_same, n1, u, [], rfl, Rep.mono s1.keep rv, rfl⟩⟩
    · exact q.elim
def exn2 (x n n' : Str) (e : En) (vs : List Val) (M : Mem) : O := match vs with
  | [.d y, .d z] => .er ⟨x, [(n', z), (n, y)]⟩ e M
  | _ => .bad
def sRaise2 (x n n' : Str) (fs : En → Mem → R (List Val)) : SF := fun e M => rOs (fs e M) e fun v M1 => exn2 x n n' e v M1
theorem vs_raise2 {fs : En → Mem → R (List Val)} (cc : ECal2 X.prog X.w X.K X.mg x n n') (hr : Room (k + 1) X.A) (hc : X.calm = true) (tk : L2N.Takes X W) (hg : Gl X x) (he : VA X W [e, e2] fs) (hdb : (x == ("__debug__" : Str)) = false := by decide)
    (hs : starEach (e :: [e2]) X.env = (false, eval e X.env) :: starEach [e2] X.env := by rfl) (hpl : (backTo pos (starEach [e2] X.env)).any (·.1) = false := by rfl) : VS X W (.Raise (some (.Call (.Name x p) [e, e2] [] pos)) none pos') (sRaise2 x n n' fs) :=
  ps_imp (L2N.ps_raise hc tk (pmk_x2 cc hr hg he hdb hs hpl)) fun D σ H h => by
    obtain ⟨C, _, hm, _⟩ := cc.ex
    obtain ⟨ρ, env, M, es, h⟩ := h
    refine ⟨ρ, env, M, es, (Konts.toS es h).mono (fun us H1 ⟨ρ1, M1, vs, s0, es1, rv, q⟩ => ?_) fun _ _ _ z => z⟩
    unfold exn2 at q
    split at q
    · rename_i y z
      obtain ⟨u1, r1, rfl, h1, u2, r2, rfl, h2, rfl⟩ := rv
      refine ⟨u1, u2, rfl, C, hm, fun d hd => ?_⟩
      obtain ⟨s1, g1, n1⟩ := es1.gs.alloc hd (.xd [(n', u2), (n, u1)])
      exact q ρ1 σ _ _ _ s1 (es1.step s1 g1) ⟨C, hm, rfl, .inr ⟨d, _, rfl, upd_same, n1, u2, _, rfl, Rep.mono s1.keep h2, u1, [], rfl, Rep.mono s1.keep h1, rfl⟩⟩
    · exact q.elim
end

/-! ### try -/
/-- a clause: which classes it takes, the name's slot, its suite -/
structure Hcl where
  t : Str → Option Bool
  i : Option Nat
  G : SF
def unb (i : Option Nat) (e : En) : En := match i with
  | some j => e.set j none
  | none => e
def unbS (i : Option Nat) (σ : L2.St) : L2.St := match i with
  | some j => σ.set j none
  | none => σ
def bnd (i : Option Nat) (x : Exn) (e : En) : En := match i with
  | some j => e.set j (some (.exc x))
  | none => e
def CleanE (i : Option Nat) (e0 e : En) : Prop := ∀ (j : Nat) (v : Val), (unb i e)[j]? = some (some v) → noX v = true ∨ e0[j]? = some (some v)
noncomputable def unbindO (i : Option Nat) (e0 : En) : O → O := open Classical in fun o => match o with
  | .nx e M => if CleanE i e0 e then .nx (unb i e) M else .bad
  | .rt v M => if noX v = true then .rt v M else .bad
  | .bk e M => if CleanE i e0 e then .bk (unb i e) M else .bad
  | .ct e M => if CleanE i e0 e then .ct (unb i e) M else .bad
  | .er _ _ _ => .bad
  | .bad => .bad
noncomputable def handle (x : Exn) (e : En) (M : Mem) : List Hcl → O
  | [] => .er x e M
  | h :: r => match h.t x.cls with
    | some true => unbindO h.i e (h.G (bnd h.i x e) M)
    | some false => handle x e M r
    | none => .bad
noncomputable def sTry (F : SF) (l : List Hcl) : SF := fun e M => match F e M with
  | .er x e1 M1 => handle x e1 M1 l
  | o => o
inductive HdOk (X : Cx) : List ExceptHandler → List Hcl → List (Value × Option Nat × (Addr → Value → Option Addr → TS)) → Prop
  | nil : HdOk X [] [] []
  | only {x : Str} {c : Value} {G : SF} {t : Str → Option Bool} {b₀ : Stmt} {suite : List Stmt} {np pos' : Pos} {hds : List ExceptHandler} {l l'} (hc : Names X x c) (ht : ∀ cn b C, t cn = some b → X.mg cn = some (.ref C) → PySem.W.exmOne X.K (.ref C) c = some b)
      (hsu : ∀ (a : Addr) (oe : Obj) (cls : Value) (d : Option Addr) (pn : List (Addr × Obj)), L2N.Zn cls d oe → (∃ vs, oe.data = .fields vs) → VSs (X.suite a ((a, oe) :: pn)) W0 (b₀ :: suite) G) (r : HdOk X hds l l') :
      HdOk X (.ExceptHandler (some (.Name x np)) none (b₀ :: suite) pos' :: hds) (⟨t, none, G⟩ :: l) ((c, none, fun a cls d => liftS ⟨X.mg, X.K, some (a, cls, d)⟩ W0 G) :: l')
  | named {x n : Str} {i : Nat} {c : Value} {G : SF} {t : Str → Option Bool} {b₀ : Stmt} {suite : List Stmt} {np pos' : Pos} {hds : List ExceptHandler} {l l'} (hc : Names X x c) (hN : X.N.Nodup) (hi : X.N[i]? = some n) (hln : X.env.kindOf n = some .local)
      (ht : ∀ cn b C, t cn = some b → X.mg cn = some (.ref C) → PySem.W.exmOne X.K (.ref C) c = some b)
      (hsu : ∀ (a : Addr) (oe : Obj) (cls : Value) (d : Option Addr) (pn : List (Addr × Obj)), L2N.Zn cls d oe → (∃ vs, oe.data = .fields vs) → VSs (X.suite a ((a, oe) :: pn)) W0 (b₀ :: suite) G) (r : HdOk X hds l l') :
      HdOk X (.ExceptHandler (some (.Name x np)) (some n) (b₀ :: suite) pos' :: hds) (⟨t, some i, G⟩ :: l) ((c, some i, fun a cls d => liftS ⟨X.mg, X.K, some (a, cls, d)⟩ W0 G) :: l')
section
variable {X : Cx} {W : WX}
theorem gm_suite {a : Addr} {oe : Obj} {cls : Value} {d : Option Addr} {pn : List (Addr × Obj)} (z : L2N.Zn cls d oe) : gm (X.suite a ((a, oe) :: pn)) = ⟨X.mg, X.K, some (a, cls, d)⟩ := by
  obtain ⟨rfl, rfl, _⟩ := z
  show (⟨X.mg, X.K, hdOf (X.suite a ((a, oe) :: pn))⟩ : Mg) = _
  have : hdOf (X.suite a ((a, oe) :: pn)) = some (a, oe.cls, oe.dict) := by
    show (List.lookup a ((a, oe) :: pn)).map (fun o => (a, o.cls, o.dict)) = _
    rw [List.lookup_cons, beq_self_eq_true]
    rfl
  rw [this]
theorem any_hd {hds l l'} (k : HdOk X hds l l') : AnyOk X hds l' := by
  induction k with
  | nil => exact .nil
  | only hc ht hsu r ih =>
    refine .only hc (fun a oe cls d pn z f => ?_) ih
    have q := hsu a oe cls d pn z f
    unfold VSs at q
    rw [gm_suite z] at q
    exact q
  | named hc hN hi hln ht hsu r ih =>
    refine .named hc hN hi hln (fun a oe cls d pn z f => ?_) ih
    have q := hsu a oe cls d pn z f
    unfold VSs at q
    rw [gm_suite z] at q
    exact q
/-- a clause's suite, then its name is gone -/
theorem suite_end {ρ : Rho} {M : Mem} {H : Hp} {D : Ends} {i : Option Nat} {e0 : En} {o : O} {hd : Option (Addr × Value × Option Addr)} {D' : Ends} (h : KontS ⟨X.mg, X.K, none⟩ ρ M H (unbindO i e0 o) D W) (hc0 : ∀ (j : Nat) (v : Val), e0[j]? = some (some v) → noX v = true)
    (hD : D' = match i with | some j => goneAt D j | none => D) : KontS ⟨X.mg, X.K, hd⟩ ρ M H o D' W0 := by
  have es_end : ∀ {ρ1 : Rho} {e1 : En} {M1 : Mem} {σ1 : L2.St} {H1 : Hp}, CleanE i e0 e1 → Es ⟨X.mg, X.K, hd⟩ ρ1 e1 M1 σ1 H1 → Es ⟨X.mg, X.K, none⟩ ρ1 (unb i e1) M1 (unbS i σ1) H1 := fun {ρ1 e1 M1 σ1 H1} hc es => by
    have es2 : Es ⟨X.mg, X.K, hd⟩ ρ1 (unb i e1) M1 (unbS i σ1) H1 := by
      cases i with
      | none => exact es
      | some j => exact es.unset
    refine ⟨es2.gs.hd, fun j v e => ?_, es2.len⟩
    obtain ⟨u, a, b⟩ := es2.sl j v e
    exact ⟨u, a, b.hd ((hc j v e).elim id (hc0 j v))⟩
  cases o with
  | nx e1 M1 =>
    unfold unbindO at h
    dsimp only at h
    split at h
    · rename_i hc
      intro ρ1 σ1 H1 s1 es1
      have q := h ρ1 _ H1 s1 (es_end hc es1)
      subst hD
      cases i <;> exact q
    · exact h.elim
  | bk e1 M1 =>
    unfold unbindO at h
    dsimp only at h
    split at h
    · rename_i hc
      intro ρ1 σ1 H1 s1 es1
      have q := h ρ1 _ H1 s1 (es_end hc es1)
      subst hD
      cases i <;> exact q
    · exact h.elim
  | ct e1 M1 =>
    unfold unbindO at h
    dsimp only at h
    split at h
    · rename_i hc
      intro ρ1 σ1 H1 s1 es1
      have q := h ρ1 _ H1 s1 (es_end hc es1)
      subst hD
      cases i <;> exact q
    · exact h.elim
  | rt v M1 =>
    unfold unbindO at h
    dsimp only at h
    split at h
    · rename_i hn
      intro ρ1 u H1 s1 g1 r1
      have q := h ρ1 u H1 s1 g1.hd (r1.hd hn)
      subst hD
      cases i <;> exact q
    · exact h.elim
  | er x e1 M1 => exact h.elim
  | bad => exact h.elim
theorem any_of {hds l l'} (k : HdOk X hds l l') {D : Ends} {x : Exn} {e : En} {M : Mem} {ρ : Rho} {σ : L2.St} {H : Hp} {cls : Value} {d : Option Addr} (h : KontS ⟨X.mg, X.K, none⟩ ρ M H (handle x e M l) D W) (es : Es ⟨X.mg, X.K, none⟩ ρ e M σ H) (rx : RepX ⟨X.mg, X.K, none⟩ ρ M H cls d x) :
    wAny X.K W D l' cls d σ H := by
  have hc0 : ∀ (j : Nat) (v : Val), e[j]? = some (some v) → noX v = true := fun j v q => let ⟨u, _, b⟩ := es.sl j v q; b.clean
  obtain ⟨C, hm, hcl, _⟩ := id rx
  induction k with
  | nil => exact h ρ σ cls d H .refl es rx
  | @only xn c G t b₀ suite np pos' hds l l' hc ht hsu r ih =>
    unfold handle at h
    split at h
    · rename_i eb
      refine ⟨true, ?_, fun _ a na => ?_, fun z => nomatch z⟩
      · rw [hcl]; exact ht _ _ _ eb hm
      · exact ⟨ρ, e, M, es.hd, suite_end h hc0 rfl⟩
    · rename_i eb
      refine ⟨false, ?_, (fun z => nomatch z), fun _ => ih h⟩
      rw [hcl]; exact ht _ _ _ eb hm
    · exact h.elim
  | @named xn n i c G t b₀ suite np pos' hds l l' hc hN hi hln ht hsu r ih =>
    unfold handle at h
    split at h
    · rename_i eb
      refine ⟨true, ?_, fun _ a na => ?_, fun z => nomatch z⟩
      · rw [hcl]; exact ht _ _ _ eb hm
      · exact ⟨ρ, bnd (some i) x e, M, (es.hd (h := some (a, cls, d))).set (v := .exc x) (u := .ref a) ⟨a, cls, d, rfl, rfl, rx.hd⟩, suite_end h hc0 rfl⟩
    · rename_i eb
      refine ⟨false, ?_, (fun z => nomatch z), fun _ => ih h⟩
      rw [hcl]; exact ht _ _ _ eb hm
    · exact h.elim
theorem vs_try {body : List Stmt} {h₀ : ExceptHandler} {hds : List ExceptHandler} {l : List Hcl} {l'} {pos : Pos} {F : SF} (hh : X.A.handled = none) (tk : L2N.Takes X W)
    (hb : ∀ (W : WX) (pn : List (Addr × Obj)) (xe : Value → Shared → Prop), L2N.Takes (X.tr pn xe) W → PassesOwn (model X.prog X.w) X.A X.env xe → VSs (X.tr pn xe) W body F) (k : HdOk X (h₀ :: hds) l l') (hs : X.stack = X.env :: X.outer := by rfl) (hf : X.env.frame = some X.env.locals := by rfl) :
    VS X W (.Try body (h₀ :: hds) [] [] pos) (sTry F l) := by
  refine ps_imp (ps_try_any (tb := fun W => liftS ⟨X.mg, X.K, none⟩ W F) hs hf tk (fun W pn xe t p => ?_) (any_hd k)) fun D σ H h => ?_
  · have q := hb W pn xe t p
    unfold VSs at q
    rw [gm_calm (X := X.tr pn xe) hh] at q
    exact q
  · rw [gm_calm hh] at h
    obtain ⟨ρ, env, M, es, h⟩ := h
    refine ⟨ρ, env, M, es, ?_⟩
    unfold sTry at h
    revert h
    cases F env M with
    | nx e1 M1 => exact fun h => h
    | rt v M1 => exact fun h => h
    | bk e1 M1 => exact fun h => h
    | ct e1 M1 => exact fun h => h
    | bad => exact fun h => h
    | er x e1 M1 => exact fun h ρ1 σ1 cls d H1 s1 es1 rx => any_of k (h.from s1) es1 rx
/-! ### a caught exception -/
def fXf (cs : List Str) (n : Str) (f : EF) : EF := fun e M => rbind (f e M) fun v M1 => match v with
  | .exc x => if x.cls ∈ cs then (match lookF n x.fs with
    | some y => .ok (.d y) M1
    | none => .bad) else .bad
  | _ => .bad
theorem repF_look {mg : Mg} {S : Addr → Prop} {H : Hp} {n : Str} {y : D} : ∀ {gs : List (Str × D)} {us : List (Str × V)}, RepF mg S H us gs → lookF n gs = some y → ∃ u, us.lookup n = some u ∧ Rep mg S H u y
  | [], _, _, e => by cases e
  | (g, d) :: gs, _, h, e => by
    obtain ⟨u, r, rfl, h1, h2⟩ := h
    unfold lookF at e
    by_cases z : n = g
    · rw [if_pos z] at e
      cases e
      refine ⟨u, ?_, h1⟩
      rw [List.lookup_cons, show (n == g) = true from by rw [z]; exact beq_self_eq_true g]
    · rw [if_neg z] at e
      obtain ⟨w, a, b⟩ := repF_look h2 e
      refine ⟨w, ?_, b⟩
      rw [List.lookup_cons, show (n == g) = false from beq_eq_false_iff_ne.mpr z]
      exact a
/-- e.n in the suite; cs: the classes that e may be of -/
theorem ve_xf {a : Addr} {oe : Obj} {cls : Value} {d : Option Addr} {pn : List (Addr × Obj)} {e : Expr} {f : EF} {pos : Pos} {n : Str} {cs : List Str} {W : WX} (hcs : ∀ cn C, X.mg cn = some (.ref C) → cn ∈ cs → XfC X.K C ∧ PySem.W.findIn X.K (.ref C) n = some none)
    (hz : L2N.Zn cls d oe) (hf : ∃ vs, oe.data = .fields vs) (he : VE (X.suite a ((a, oe) :: pn)) W e f) (hb : attributeBase e n X.env (eval e X.env) = eval e X.env := by rfl) :
    VE (X.suite a ((a, oe) :: pn)) W (.Attribute e n pos) (fXf cs n f) := by
  have eg : gm (X.suite a ((a, oe) :: pn)) = ⟨X.mg, X.K, some (a, cls, d)⟩ := gm_suite hz
  by_cases hC : ∃ cn C, cls = .ref C ∧ X.mg cn = some (.ref C) ∧ cn ∈ cs
  · obtain ⟨cn0, C, ec, mc, hcn⟩ := hC
    obtain ⟨T, hno⟩ := hcs cn0 C mc hcn
    refine pe_imp (pe_xf T hno hz.zc hf he hb) fun σ H Q h => ?_
    refine lift_bind h fun ρ env M H1 u v es rv q => ?_
    rw [eg] at rv
    cases v with
    | d x => exact q.elim
    | obj k => exact q.elim
    | exc x =>
      obtain ⟨a', cls', dd', eh, eu, rx⟩ := rv
      cases eh
      dsimp only at q
      split at q
      · split at q
        · rename_i y el
          obtain ⟨C2, m2, c2, z⟩ := rx
          refine ⟨eu, ec, ?_⟩
          rcases z with ⟨z, _⟩ | ⟨dd, fs, ed, eH, nS, rf⟩
          · rw [z] at el; cases el
          · obtain ⟨w, lw, rw'⟩ := repF_look rf el
            exact ⟨dd, fs, w, ed, eH, lw, q ρ w H1 .refl es.gs (by rw [eg]; exact rw')⟩
        · exact q.elim
      · exact q.elim
  · refine ⟨fun pins s σ H Q I h => ?_⟩
    have h2 : lift (gm (X.suite a ((a, oe) :: pn))) W f σ H (fun _ _ => False) := lift_bind h fun ρ env M H1 u v es rv q => by
      rw [eg] at rv
      cases v with
      | d x => exact q.elim
      | obj k => exact q.elim
      | exc x =>
        obtain ⟨a', cls', dd', eh, eu, rx⟩ := rv
        cases eh
        dsimp only at q
        split at q
        · rename_i hx
          obtain ⟨C2, m2, c2, z⟩ := rx
          exact hC ⟨x.cls, C2, c2, m2, hx⟩
        · exact q.elim
    refine attr_of hb (thn (he.run pins s σ H _ I h2) fun u s1 hh => ?_)
    obtain ⟨_, _, _, _, z⟩ := hh
    exact z.elim
end
end Vl
set_option Elab.async false
set_option linter.all false
set_option maxRecDepth 100000
set_option maxHeartbeats 1000000
/-! Vl11: built-in functions: isinstance, len, int, str, list, tuple, max, min, sum, any, all, abs. -/
namespace Vl
open PySem PySem.Spec PyProof.Rows L2

/-! ### isinstance -/
inductive Ty where
  | b (n : String) | c (C : Str)
def tyOf (M : Mem) : Val → Option Ty
  | .d .non => some (.b "NoneType")
  | .d (.bl _) => some (.b "bool")
  | .d (.int _) => some (.b "int")
  | .d (.str _) => some (.b "str")
  | .d (.scr _) => some (.b "list")
  | .d (.lst _) => some (.b "list")
  | .d (.tup _) => some (.b "tuple")
  | .d (.dct _) => some (.b "dict")
  | .d (.ins C _) => some (.c C)
  | .d (.glo _) => none
  | .obj k => (match M[k]? with
    | some (.lst _) => some (.b "list")
    | some (.dct _) => some (.b "dict")
    | some (.ins C _) => some (.c C)
    | _ => none)
  | .exc _ => none
def tys : List String := ["NoneType", "bool", "int", "str", "list", "tuple", "dict"]
/-- n's values are T's -/
def isB (T n : String) : Bool := n == T || (T == "int" && n == "bool")
theorem kit_tys : ∀ T ∈ tys, T ≠ "NoneType" → ∀ n ∈ tys, kitB n T = some (isB T n) := by decide +kernel
structure IsCls (K : PySem.W.Frag) (C : Addr) : Prop where
  cl : Cls K C
  ha : PySem.W.findIn K (.ref C) "__class__" = some (some (.builtin "object.__class__"))
  hn : PySem.W.specialIn K (.builtin "object.__class__") "__get__" = some (some (.builtin "getset_descriptor.__get__"))
  htk : PySem.W.takesIn K (.builtin "object.__class__") = some true
  hm : PySem.W.mroIn K C (.type "object") = some true
/-- of the class cn one is asked cv: b -/
structure AskC (K : PySem.W.Frag) (mg : Str → Option Value) (cn : Str) (cv : Value) (b : Bool) : Prop where
  ex : ∃ C, mg cn = some (.ref C) ∧ IsCls K C ∧ PySem.W.kitOne K (.ref C) cv = some b
def TyOk (mg : Mg) (H : Hp) (u : V) : Ty → Prop
  | .b n => n ∈ tys ∧ TyX mg.K H u (.type n)
  | .c cn => ∃ C, mg.m cn = some (.ref C) ∧ (IsCls mg.K C → TyX mg.K H u (.ref C))
section
variable {mg : Mg} {ρ : Rho} {M : Mem} {H : Hp} {u : V} {v : Val} {t : Ty}
theorem tyOf_rep (g : Gs mg ρ M H) (r : RepV mg ρ M H u v) (e : tyOf M v = some t) : TyOk mg H u t := by
  have insT : ∀ {a C dx : Addr} {fs : List (Str × V)}, H a = some (.ins C dx fs) → IsCls mg.K C → TyX mg.K H (.ref a) (.ref C) := fun e h => .base (.ins e h.cl h.ha h.hn h.htk h.hm)
  cases v with
  | exc x => cases e
  | obj k =>
    obtain ⟨rfl, hk⟩ := r
    unfold tyOf at e
    dsimp only at e
    split at e
    · rename_i l el
      cases e
      obtain ⟨us, h, _⟩ := g.at_ k _ el
      exact ⟨by decide, .base (.lst h)⟩
    · rename_i l el
      cases e
      obtain ⟨us, h, _⟩ := g.at_ k _ el
      exact ⟨by decide, .base (.dK h)⟩
    · rename_i C fs el
      cases e
      obtain ⟨Ca, dx, us, h, m, _⟩ := g.at_ k _ el
      exact ⟨Ca, m, insT h⟩
    · cases e
  | d x =>
    cases x with
    | non => cases e; cases r; exact ⟨by decide, .base .non⟩
    | bl b => cases e; cases r; exact ⟨by decide, .base (.bl b)⟩
    | int b => cases e; cases r; exact ⟨by decide, .base (.int b)⟩
    | str b => cases e; cases r; exact ⟨by decide, .base (.str b)⟩
    | scr ns =>
      cases e
      obtain ⟨a, rfl, h⟩ := r
      refine ⟨by decide, ?_⟩
      have key : SqL mg.K H a (ns.map V.int) := by
        rcases h with ⟨h, _⟩ | h
        · exact .inl h
        · exact h H
      rcases key with (h | ⟨o, h⟩) | ⟨o, its, n, lk, ec, _⟩
      · exact .base (.lst h)
      · exact .base (.frz h)
      · exact .kList lk ec
    | lst l =>
      cases e
      obtain ⟨a, us, rfl, h, _⟩ := r
      exact ⟨by decide, .base (.lst h)⟩
    | tup l =>
      cases e
      obtain ⟨a, us, rfl, h, _⟩ := r
      refine ⟨by decide, ?_⟩
      rcases h with h | ⟨o, h⟩
      · exact .base (.tup h)
      · exact .fTuple h
    | dct l =>
      cases e
      obtain ⟨a, us, rfl, h, _⟩ := r
      refine ⟨by decide, ?_⟩
      rcases h with h | ⟨o, h⟩
      · exact .base (.dK h)
      · exact .fDict h
    | ins C fs =>
      cases e
      obtain ⟨a, Ca, dx, us, rfl, h, _, m, _⟩ := r
      exact ⟨Ca, m, insT h⟩
    | glo x => cases e
end
def isiR (bt : String → Bool) (ct : Str → Option Bool) (M : Mem) (v : Val) : R Val := match tyOf M v with
  | some (.b n) => .ok (.d (.bl (bt n))) M
  | some (.c C) => (match ct C with
    | some b => .ok (.d (.bl b)) M
    | none => .bad)
  | none => .bad
def fIsi (bt : String → Bool) (ct : Str → Option Bool) (f : EF) : EF := fun e M => rbind (f e M) fun v M1 => isiR bt ct M1 v
section
variable {X : Cx} {W : WX} {e e2 : Expr} {es : List Expr} {f g : EF} {p p2 pos : Pos} {x : Str} {fs : En → Mem → R (List Val)}
theorem ve_isi {T : Expr} {c : V} {cv : Value} {bt : String → Bool} {ct : Str → Option Bool} (hT : PE X T (tC c)) (hc : ClsV c cv) (hb : ∀ n ∈ tys, PySem.W.kitOne X.K (.type n) cv = some (bt n)) (hcs : ∀ cn b, ct cn = some b → AskC X.K X.mg cn cv b)
    (hg : Gl X "isinstance") (hm : X.mg "isinstance" = none) (he : VE X W e f) (hs : starEach (e :: [T]) X.env = (false, eval e X.env) :: starEach [T] X.env := by rfl) (hs2 : starEach (T :: []) X.env = (false, eval T X.env) :: starEach [] X.env := by rfl)
    (hpl : (backTo pos (starEach [T] X.env)).any (·.1) = false := by rfl) : VE X W (.Call (.Name "isinstance" p) [e, T] [] pos) (fIsi bt ct f) := by
  refine pe_imp (pe_callB call_isi hg hm (by decide +kernel) (pa_cons he (pa_cons hT pa_nil hs2) hs) (by decide) (by decide) hs hpl) fun σ H Q hh => ?_
  refine lift_bind hh fun ρ env M H1 u v es1 r q => ?_
  unfold isiR at q
  split at q
  · rename_i n et
    obtain ⟨hn, ty⟩ := tyOf_rep es1.gs r et
    exact ⟨u, c, .type n, cv, bt n, rfl, hc, ty, hb n hn, q ρ _ H1 .refl es1.gs rfl⟩
  · rename_i C et
    split at q
    · rename_i b eb
      obtain ⟨Ca, mc, ty⟩ := tyOf_rep es1.gs r et
      obtain ⟨Cb, mb, ic, kb⟩ := (hcs _ _ eb).ex
      have : Ca = Cb := by
        have z : X.mg C = some (.ref Ca) := mc
        rw [mb] at z; cases z; rfl
      subst this
      exact ⟨u, c, .ref Ca, cv, b, rfl, hc, ty ic, kb, q ρ _ H1 .refl es1.gs rfl⟩
    · exact q.elim
  · exact q.elim
/-- a built-in type -/
theorem ve_isiB {T : String} {ct : Str → Option Bool} (hT : T ∈ tys ∧ T ≠ "NoneType" := by exact ⟨by decide, by decide⟩) (hcs : ∀ cn b, ct cn = some b → AskC X.K X.mg cn (.type T) b) (hgT : Gl X (T : String)) (hmT : X.mg (T : String) = none) (hv : bootBuiltins (T : String) = some (.type T))
    (hg : Gl X "isinstance") (hm : X.mg "isinstance" = none) (he : VE X W e f) (hn : ((T : String) : Str) ≠ "__name__" := by decide) (hd : (((T : String) : Str) == ("__debug__" : Str)) = false := by decide)
    (hs : starEach (e :: [.Name (T : String) p2]) X.env = (false, eval e X.env) :: starEach [.Name (T : String) p2] X.env := by rfl) : VE X W (.Call (.Name "isinstance" p) [e, .Name (T : String) p2] [] pos) (fIsi (isB T) ct f) :=
  ve_isi (pe_bltn (v := .ty T) hgT hmT hv rfl hn hd) (.ty T) (fun n hn => kit_ty (kit_tys T hT.1 hT.2 n hn)) hcs hg hm he hs
/-- a class of the program -/
theorem ve_isiC {T : Str} {C : Addr} {ct : Str → Option Bool} (hgT : Gl X T) (hmT : X.mg T = some (.ref C)) (hb : ∀ n ∈ tys, PySem.W.kitOne X.K (.type n) (.ref C) = some false) (hcs : ∀ cn b, ct cn = some b → AskC X.K X.mg cn (.ref C) b)
    (hg : Gl X "isinstance") (hm : X.mg "isinstance" = none) (he : VE X W e f) (hd : (T == ("__debug__" : Str)) = false := by decide)
    (hs : starEach (e :: [.Name T p2]) X.env = (false, eval e X.env) :: starEach [.Name T p2] X.env := by rfl) : VE X W (.Call (.Name "isinstance" p) [e, .Name T p2] [] pos) (fIsi (fun _ => false) ct f) :=
  ve_isi (pe_glob (v := .ref C) hgT hmT rfl hd) (.own C) hb hcs hg hm he hs
/-- one of two built-in types -/
theorem ve_isi2 {T T' : String} {k : Nat} {p3 pt : Pos} (hT : T ∈ tys ∧ T ≠ "NoneType" ∧ T' ∈ tys ∧ T' ≠ "NoneType" := by exact ⟨by decide, by decide, by decide, by decide⟩) (hgT : Gl X (T : String)) (hmT : X.mg (T : String) = none) (hv : bootBuiltins (T : String) = some (.type T))
    (hgT2 : Gl X (T' : String)) (hmT2 : X.mg (T' : String) = none) (hv2 : bootBuiltins (T' : String) = some (.type T')) (hg : Gl X "isinstance") (hm : X.mg "isinstance" = none) (he : VE X W e f) (hn : ((T : String) : Str) ≠ "__name__" := by decide) (hd : (((T : String) : Str) == ("__debug__" : Str)) = false := by decide)
    (hn2 : ((T' : String) : Str) ≠ "__name__" := by decide) (hd2 : (((T' : String) : Str) == ("__debug__" : Str)) = false := by decide)
    (hs : starEach (e :: [.Tuple [.Name (T : String) p2, .Name (T' : String) p3] k pt]) X.env = (false, eval e X.env) :: starEach [.Tuple [.Name (T : String) p2, .Name (T' : String) p3] k pt] X.env := by rfl) :
    VE X W (.Call (.Name "isinstance" p) [e, .Tuple [.Name (T : String) p2, .Name (T' : String) p3] k pt] [] pos) (fIsi (fun n => isB T n || isB T' n) (fun _ => none) f) := by
  refine pe_imp (pe_callB call_isiT hg hm (by decide +kernel) (pa_cons he (pa_cons (pe_tup (pa_cons (pe_bltn (v := .ty T) hgT hmT hv rfl hn hd) (pa_cons (pe_bltn (v := .ty T') hgT2 hmT2 hv2 rfl hn2 hd2) pa_nil))) pa_nil) hs) (by decide) (by decide) hs) fun σ H Q hh => ?_
  refine lift_bind hh fun ρ env M H1 u v es1 r q => ⟨by show 0 + 1 + 1 ≤ sizeLine; rw [sizeLine_eq]; decide, fun tp hp => ?_⟩
  obtain ⟨s1, g1, n1⟩ := es1.gs.alloc hp (.tup [.ty T, .ty T'])
  unfold isiR at q
  split at q
  · rename_i n et
    obtain ⟨hn, ty⟩ := tyOf_rep g1 (r.step s1) et
    have k1 := kit_ty (K := X.K) (kit_tys T hT.1 hT.2.1 n hn)
    have k2 := kit_ty (K := X.K) (kit_tys T' hT.2.2.1 hT.2.2.2 n hn)
    refine ⟨u, tp, [.ty T, .ty T'], .type n, [.type T, .type T'], isB T n || isB T' n, rfl, upd_same, .cons (.ty T) (.cons (.ty T') .nil), ty, kitAny_cons k1 (fun e1 => kitAny_cons k2 (fun e2 => ?_) fun e2 => ?_) fun e1 => ?_, q ρ _ _ s1 g1 rfl⟩
    · rw [e1, e2]; exact kitAny_nil
    · rw [e2]; exact Bool.or_true _
    · rw [e1]; rfl
  · exact q.elim
  · exact q.elim

/-! ### functions of plain values -/
def CallK (mg : Mg) (r : List V → Hp → VK → Prop) (φ : List Val → Mem → R Val) : Prop := ∀ (ρ : Rho) (M : Mem) (H : Hp) (us : List V) (vs : List Val) (Q : VK) (E : XK),
  Gs mg ρ M H → RepVs mg ρ M H us vs → Kont mg ρ M H (φ vs M) Q E → r us H Q
variable {r : List V → Hp → VK → Prop} {φ : List Val → Mem → R Val} {bid T : String}
theorem ve_bf (hc : CallR X (.builtin bid) r) (k : CallK (gm X) r φ) (hg : Gl X x) (hm : X.mg x = none) (hv : bootBuiltins x = some (.builtin bid)) (ha : VA X W (e :: es) fs) (hn : x ≠ "__name__" := by decide) (hdb : (x == ("__debug__" : Str)) = false := by decide)
    (he : starEach (e :: es) X.env = (false, eval e X.env) :: starEach es X.env := by rfl) (hpl : (backTo pos (starEach es X.env)).any (·.1) = false := by rfl) : VE X W (.Call (.Name x p) (e :: es) [] pos) (fun e M => rbind (fs e M) φ) :=
  pe_imp (pe_callB hc hg hm hv ha hn hdb he hpl) fun σ H Q hh => lifts_bind hh fun ρ env M H1 us vs es1 r q => k ρ M H1 us vs Q _ es1.gs r q
theorem ve_bt (hc : CallR X (.type T) r) (k : CallK (gm X) r φ) (hg : Gl X x) (hm : X.mg x = none) (hv : bootBuiltins x = some (.type T)) (ha : VA X W (e :: es) fs) (hn : x ≠ "__name__" := by decide) (hdb : (x == ("__debug__" : Str)) = false := by decide)
    (he : starEach (e :: es) X.env = (false, eval e X.env) :: starEach es X.env := by rfl) (hpl : (backTo pos (starEach es X.env)).any (·.1) = false := by rfl) : VE X W (.Call (.Name x p) (e :: es) [] pos) (fun e M => rbind (fs e M) φ) :=
  pe_imp (pe_callTy hc hg hm hv ha hn hdb he hpl) fun σ H Q hh => lifts_bind hh fun ρ env M H1 us vs es1 r q => k ρ M H1 us vs Q _ es1.gs r q
def bLen (vs : List Val) (M : Mem) : R Val := match vs with
  | [v] => (match v with
    | .d (.str z) => if z.length ≤ big then .ok (.d (.int z.length)) M else .bad
    | v => (match rdS M v with
      | some l => .ok (.d (.int l.length)) M
      | none => (match v with
        | .obj _ => (match rdD M v with
          | some l => .ok (.d (.int l.length)) M
          | none => .bad)
        | _ => .bad)))
  | _ => .bad
theorem repP_length {mg : Mg} {S : Addr → Prop} {H : Hp} : ∀ {l : List (Key × D)} {us : List (Key × V)}, RepP mg S H us l → us.length = l.length
  | [], _, h => by cases h; rfl
  | (k, x) :: l, _, h => by
    obtain ⟨u, ws, rfl, _, h2⟩ := h
    simp [repP_length h2]
theorem k_len : CallK (gm X) (fun xs H Q => (∃ p ys, xs = [.ref p] ∧ (SqL X.K H p ys ∨ SqT X.K H p ys) ∧ Q (.int ys.length) H) ∨ (fun xs H Q => (∃ z, xs = [.str z] ∧ z.length ≤ sizeLine ∧ Q (.int z.length) H) ∨ (∃ a kvs, xs = [V.ref a] ∧ H a = some (.dK kvs) ∧ Q (.int kvs.length) H)) xs H Q) bLen :=
  fun ρ M H us vs Q E g r q => by
    unfold bLen at q
    split at q
    · rename_i v
      obtain ⟨u, us', rfl, rv, rfl⟩ := r
      split at q
      · rename_i z
        split at q
        · rename_i hl
          cases rv
          exact .inr (.inl ⟨z, rfl, big_le hl, q ρ _ H .refl g rfl⟩)
        · exact q.elim
      · split at q
        · rename_i l el
          obtain ⟨a, ys, rfl, h, rl⟩ := rdS_rep g rv el
          refine .inl ⟨a, ys, rfl, h, ?_⟩
          rw [RepL.length rl]
          exact q ρ _ H .refl g rfl
        · split at q
          · rename_i k _ _
            split at q
            · rename_i l el
              unfold rdD at el
              dsimp only at el
              split at el
              · rename_i ps ep
                cases el
                obtain ⟨ws, h, rp⟩ := g.at_ k _ ep
                obtain ⟨rfl, _⟩ := rv
                refine .inr (.inr ⟨_, ws, rfl, h, ?_⟩)
                rw [repP_length rp]
                exact q ρ _ H .refl g rfl
              · cases el
            · exact q.elim
          · exact q.elim
    · exact q.elim
theorem ve_len (hg : Gl X "len") (hm : X.mg "len" = none) (ha : VA X W [e] fs) (he : starEach (e :: []) X.env = (false, eval e X.env) :: starEach [] X.env := by rfl) : VE X W (.Call (.Name "len" p) [e] [] pos) (fun e M => rbind (fs e M) bLen) :=
  ve_bf (CallR.or call_len_seq (CallR.or call_len_str call_lenD)) k_len hg hm (by decide +kernel) ha (by decide) (by decide) he
/-- int(i), int(b) -/
def bInt (vs : List Val) (M : Mem) : R Val := match vs with
  | [.d (.int i)] => .ok (.d (.int i)) M
  | [.d (.bl k)] => .ok (.d (.int (if k then 1 else 0))) M
  | _ => .bad
theorem ve_int1 (hg : Gl X "int") (hm : X.mg "int" = none) (ha : VA X W [e] fs) (he : starEach (e :: []) X.env = (false, eval e X.env) :: starEach [] X.env := by rfl) : VE X W (.Call (.Name "int" p) [e] [] pos) (fun e M => rbind (fs e M) bInt) :=
  ve_bt call_int1 (fun ρ M H us vs Q E g r q => by
    unfold bInt at q
    split at q
    · obtain ⟨u, us', rfl, rv, rfl⟩ := r
      cases rv
      exact .inl ⟨_, rfl, q ρ _ H .refl g rfl⟩
    · obtain ⟨u, us', rfl, rv, rfl⟩ := r
      cases rv
      exact .inr ⟨_, rfl, q ρ _ H .refl g rfl⟩
    · exact q.elim) hg hm (by decide +kernel) ha (by decide) (by decide) he
/-- str(i), str(x) -/
def bStr (vs : List Val) (M : Mem) : R Val := match vs with
  | [.d (.int i)] => if i.natAbs.log2 < 1920 then .ok (.d (.str (toString i))) M else .bad
  | [.d (.str x)] => .ok (.d (.str x)) M
  | _ => .bad
theorem ve_str1 (hg : Gl X "str") (hm : X.mg "str" = none) (ha : VA X W [e] fs) (he : starEach (e :: []) X.env = (false, eval e X.env) :: starEach [] X.env := by rfl) : VE X W (.Call (.Name "str" p) [e] [] pos) (fun e M => rbind (fs e M) bStr) :=
  ve_bt (CallR.or call_str_int SkE.call_str_str) (fun ρ M H us vs Q E g r q => by
    unfold bStr at q
    split at q
    · split at q
      · rename_i hl
        obtain ⟨u, us', rfl, rv, rfl⟩ := r
        cases rv
        exact .inl ⟨_, rfl, hl, q ρ _ H .refl g rfl⟩
      · exact q.elim
    · obtain ⟨u, us', rfl, rv, rfl⟩ := r
      cases rv
      exact .inr ⟨_, rfl, q ρ _ H .refl g rfl⟩
    · exact q.elim) hg hm (by decide +kernel) ha (by decide) (by decide) he
/-- list(xs): frozen (fr) or an object of the store -/
def bList (fr : Bool) (vs : List Val) (M : Mem) : R Val := match vs with
  | [v] => (match rdS M v with
    | some l => if fr = true then .ok (.d (.lst l)) M else .ok (.obj M.length) (M ++ [.lst l])
    | none => .bad)
  | _ => .bad
theorem ve_list1 (fr : Bool) (hg : Gl X "list") (hm : X.mg "list" = none) (ha : VA X W [e] fs) (he : starEach (e :: []) X.env = (false, eval e X.env) :: starEach [] X.env := by rfl) : VE X W (.Call (.Name "list" p) [e] [] pos) (fun e M => rbind (fs e M) (bList fr)) :=
  ve_bt call_list_of (fun ρ M H us vs Q E g r q => by
    unfold bList at q
    split at q
    · obtain ⟨u, us', rfl, rv, rfl⟩ := r
      split at q
      · rename_i l el
        obtain ⟨a, ys, rfl, h, rl⟩ := rdS_rep g rv el
        refine ⟨a, ys, rfl, h, ?_⟩
        cases fr with
        | true => exact kont_lst g rl q
        | false => exact kont_obj g rl q
      · exact q.elim
    · exact q.elim) hg hm (by decide +kernel) ha (by decide) (by decide) he
def bTup (vs : List Val) (M : Mem) : R Val := match vs with
  | [v] => (match rdS M v with
    | some l => .ok (.d (.tup l)) M
    | none => .bad)
  | _ => .bad
theorem ve_tup1 (hg : Gl X "tuple") (hm : X.mg "tuple" = none) (ha : VA X W [e] fs) (he : starEach (e :: []) X.env = (false, eval e X.env) :: starEach [] X.env := by rfl) : VE X W (.Call (.Name "tuple" p) [e] [] pos) (fun e M => rbind (fs e M) bTup) :=
  ve_bt call_tuple_of (fun ρ M H us vs Q E g r q => by
    unfold bTup at q
    split at q
    · rename_i v
      obtain ⟨u, us', rfl, rv, rfl⟩ := r
      split at q
      · rename_i l el
        cases ht : rdT v with
        | some l' =>
          have e1 : l' = l := by
            unfold rdS at el
            rw [ht] at el
            exact Option.some.inj el
          subst e1
          obtain ⟨a, ys, rfl, h, rl⟩ := rdT_rep rv ht
          refine ⟨a, ys, rfl, .inr ⟨h, ?_⟩⟩
          unfold rdT at ht
          split at ht
          · cases ht
            exact q ρ _ H .refl g rv
          · cases ht
        | none =>
          obtain ⟨a, ys, rfl, h, rl⟩ := rdL_rep g rv (rdT_none ht el)
          exact ⟨a, ys, rfl, .inl ⟨h, kont_tup g rl q⟩⟩
      · exact q.elim
    · exact q.elim) hg hm (by decide +kernel) ha (by decide) (by decide) he
def bAbs (vs : List Val) (M : Mem) : R Val := match vs with
  | [.d (.int i)] => .ok (.d (.int (if i < 0 then -i else i))) M
  | _ => .bad
theorem ve_abs (hg : Gl X "abs") (hm : X.mg "abs" = none) (ha : VA X W [e] fs) (he : starEach (e :: []) X.env = (false, eval e X.env) :: starEach [] X.env := by rfl) : VE X W (.Call (.Name "abs" p) [e] [] pos) (fun e M => rbind (fs e M) bAbs) :=
  ve_bf call_abs (fun ρ M H us vs Q E g r q => by
    unfold bAbs at q
    split at q
    · obtain ⟨u, us', rfl, rv, rfl⟩ := r
      cases rv
      exact ⟨_, rfl, q ρ _ H .refl g rfl⟩
    · exact q.elim) hg hm (by decide +kernel) ha (by decide) (by decide) he
/-- max(i, j), max(xs), ints -/
def maxL : List Int → Option Int
  | [] => none
  | x :: r => some (r.foldl max x)
def minL : List Int → Option Int
  | [] => none
  | x :: r => some (r.foldl min x)
theorem foldl_max (l : List Int) : ∀ x : Int, x ≤ l.foldl max x ∧ (∀ y ∈ l, y ≤ l.foldl max x) ∧ (l.foldl max x = x ∨ l.foldl max x ∈ l) := by
  induction l with
  | nil => exact fun x => ⟨Int.le_refl _, (fun y hy => nomatch hy), .inl rfl⟩
  | cons a l ih =>
    intro x
    obtain ⟨h1, h2, h3⟩ := ih (max x a)
    rw [List.foldl_cons]
    refine ⟨by omega, fun y hy => ?_, ?_⟩
    · rcases List.mem_cons.mp hy with rfl | hy
      · omega
      · exact h2 y hy
    · rcases h3 with h3 | h3
      · by_cases z : x ≤ a
        · exact .inr (by rw [h3]; simp [show max x a = a by omega])
        · exact .inl (by rw [h3]; omega)
      · exact .inr (List.mem_cons_of_mem _ h3)
theorem foldl_min (l : List Int) : ∀ x : Int, l.foldl min x ≤ x ∧ (∀ y ∈ l, l.foldl min x ≤ y) ∧ (l.foldl min x = x ∨ l.foldl min x ∈ l) := by
  induction l with
  | nil => exact fun x => ⟨Int.le_refl _, (fun y hy => nomatch hy), .inl rfl⟩
  | cons a l ih =>
    intro x
    obtain ⟨h1, h2, h3⟩ := ih (min x a)
    rw [List.foldl_cons]
    refine ⟨by omega, fun y hy => ?_, ?_⟩
    · rcases List.mem_cons.mp hy with rfl | hy
      · omega
      · exact h2 y hy
    · rcases h3 with h3 | h3
      · by_cases z : x ≤ a
        · exact .inl (by rw [h3]; omega)
        · exact .inr (by rw [h3]; simp [show min x a = a by omega])
      · exact .inr (List.mem_cons_of_mem _ h3)
theorem maxL_ok {l : List Int} {m : Int} (h : maxL l = some m) : m ∈ l ∧ ∀ y ∈ l, y ≤ m := by
  cases l with
  | nil => cases h
  | cons x r =>
    cases h
    obtain ⟨h1, h2, h3⟩ := foldl_max r x
    refine ⟨h3.elim (fun e => by rw [e]; exact List.mem_cons_self) fun e => List.mem_cons_of_mem _ e, fun y hy => ?_⟩
    rcases List.mem_cons.mp hy with rfl | hy
    · exact h1
    · exact h2 y hy
theorem minL_ok {l : List Int} {m : Int} (h : minL l = some m) : m ∈ l ∧ ∀ y ∈ l, m ≤ y := by
  cases l with
  | nil => cases h
  | cons x r =>
    cases h
    obtain ⟨h1, h2, h3⟩ := foldl_min r x
    refine ⟨h3.elim (fun e => by rw [e]; exact List.mem_cons_self) fun e => List.mem_cons_of_mem _ e, fun y hy => ?_⟩
    rcases List.mem_cons.mp hy with rfl | hy
    · exact h1
    · exact h2 y hy
def bMax (vs : List Val) (M : Mem) : R Val := match vs with
  | [.d (.int i), .d (.int j)] => .ok (.d (.int (if j > i then j else i))) M
  | [v] => (match rdL M v with
    | some l => (match intsOf l with
      | some ns => (match maxL ns with
        | some m => .ok (.d (.int m)) M
        | none => .bad)
      | none => .bad)
    | none => .bad)
  | _ => .bad
def bMin (vs : List Val) (M : Mem) : R Val := match vs with
  | [.d (.int i), .d (.int j)] => .ok (.d (.int (if j < i then j else i))) M
  | [v] => (match rdL M v with
    | some l => (match intsOf l with
      | some ns => (match minL ns with
        | some m => .ok (.d (.int m)) M
        | none => .bad)
      | none => .bad)
    | none => .bad)
  | _ => .bad
theorem len_pos {l : List Int} {m : Int} (h : m ∈ l) : 0 < l.length := by
  cases l with
  | nil => cases h
  | cons _ _ => simp
theorem ve_max (hc : X.calm = true) (hg : Gl X "max") (hm : X.mg "max" = none) (ha : VA X W (e :: es) fs) (he : starEach (e :: es) X.env = (false, eval e X.env) :: starEach es X.env := by rfl) (hpl : (backTo pos (starEach es X.env)).any (·.1) = false := by rfl) : VE X W (.Call (.Name "max" p) (e :: es) [] pos) (fun e M => rbind (fs e M) bMax) :=
  ve_bf (CallR.or (call_max2 hc) (cr_max hc)) (fun ρ M H us vs Q E g r q => by
    unfold bMax at q
    split at q
    · obtain ⟨u, us', rfl, rv, u2, us2, rfl, rv2, rfl⟩ := r
      cases rv; cases rv2
      exact .inl ⟨_, _, rfl, q ρ _ H .refl g rfl⟩
    · obtain ⟨u, us', rfl, rv, rfl⟩ := r
      split at q
      · rename_i l el
        split at q
        · rename_i ns en
          split at q
          · rename_i m em
            obtain ⟨a, ys, rfl, h, rl⟩ := rdL_rep g rv el
            have e2 := intsOf_rep rl en
            subst e2
            obtain ⟨m1, m2⟩ := maxL_ok em
            refine .inr ⟨a, ns, rfl, h, len_pos m1, fun m' h1 h2 => ?_⟩
            have : m' = m := Int.le_antisymm (m2 m' h1) (h2 m m1)
            subst this
            exact q ρ _ H .refl g rfl
          · exact q.elim
        · exact q.elim
      · exact q.elim
    · exact q.elim) hg hm (by decide +kernel) ha (by decide) (by decide) he hpl
theorem ve_min (hc : X.calm = true) (hg : Gl X "min") (hm : X.mg "min" = none) (ha : VA X W (e :: es) fs) (he : starEach (e :: es) X.env = (false, eval e X.env) :: starEach es X.env := by rfl) (hpl : (backTo pos (starEach es X.env)).any (·.1) = false := by rfl) : VE X W (.Call (.Name "min" p) (e :: es) [] pos) (fun e M => rbind (fs e M) bMin) :=
  ve_bf (CallR.or (call_min2 hc) (cr_min hc)) (fun ρ M H us vs Q E g r q => by
    unfold bMin at q
    split at q
    · obtain ⟨u, us', rfl, rv, u2, us2, rfl, rv2, rfl⟩ := r
      cases rv; cases rv2
      exact .inl ⟨_, _, rfl, q ρ _ H .refl g rfl⟩
    · obtain ⟨u, us', rfl, rv, rfl⟩ := r
      split at q
      · rename_i l el
        split at q
        · rename_i ns en
          split at q
          · rename_i m em
            obtain ⟨a, ys, rfl, h, rl⟩ := rdL_rep g rv el
            have e2 := intsOf_rep rl en
            subst e2
            obtain ⟨m1, m2⟩ := minL_ok em
            refine .inr ⟨a, ns, rfl, h, len_pos m1, fun m' h1 h2 => ?_⟩
            have : m' = m := Int.le_antisymm (h2 m m1) (m2 m' h1)
            subst this
            exact q ρ _ H .refl g rfl
          · exact q.elim
        · exact q.elim
      · exact q.elim
    · exact q.elim) hg hm (by decide +kernel) ha (by decide) (by decide) he hpl
def bSum (vs : List Val) (M : Mem) : R Val := match vs with
  | [v] => (match rdL M v with
    | some l => (match intsOf l with
      | some ns => .ok (.d (.int ns.sum)) M
      | none => .bad)
    | none => .bad)
  | _ => .bad
theorem ve_sum (hc : X.calm = true) (hg : Gl X "sum") (hm : X.mg "sum" = none) (ha : VA X W [e] fs) (he : starEach (e :: []) X.env = (false, eval e X.env) :: starEach [] X.env := by rfl) : VE X W (.Call (.Name "sum" p) [e] [] pos) (fun e M => rbind (fs e M) bSum) :=
  ve_bf (cr_sum hc) (fun ρ M H us vs Q E g r q => by
    unfold bSum at q
    split at q
    · obtain ⟨u, us', rfl, rv, rfl⟩ := r
      split at q
      · rename_i l el
        split at q
        · rename_i ns en
          obtain ⟨a, ys, rfl, h, rl⟩ := rdL_rep g rv el
          have e2 := intsOf_rep rl en
          subst e2
          exact ⟨a, ns, rfl, h, q ρ _ H .refl g rfl⟩
        · exact q.elim
      · exact q.elim
    · exact q.elim) hg hm (by decide +kernel) ha (by decide) (by decide) he
def blsOf : List D → Option (List Bool)
  | [] => some []
  | .bl b :: r => (blsOf r).map (b :: ·)
  | _ :: _ => none
theorem blsOf_rep {mg : Mg} {S : Addr → Prop} {H : Hp} : ∀ {l : List D} {us : List V} {bs : List Bool}, RepL mg S H us l → blsOf l = some bs → us = bs.map V.bl
  | [], _, _, h, e => by cases e; cases h; rfl
  | x :: l, _, bs, h, e => by
    obtain ⟨u, ws, rfl, h1, h2⟩ := h
    cases x <;> try (cases e; done)
    simp only [blsOf, Option.map_eq_some_iff] at e
    obtain ⟨cs, e, rfl⟩ := e
    cases h1
    rw [blsOf_rep h2 e]
    rfl
def bAll (vs : List Val) (M : Mem) : R Val := match vs with
  | [v] => (match rdL M v with
    | some l => (match blsOf l with
      | some ns => .ok (.d (.bl (ns.all id))) M
      | none => .bad)
    | none => .bad)
  | _ => .bad
def bAny (vs : List Val) (M : Mem) : R Val := match vs with
  | [v] => (match rdL M v with
    | some l => (match blsOf l with
      | some ns => .ok (.d (.bl (ns.any id))) M
      | none => .bad)
    | none => .bad)
  | _ => .bad
theorem ve_all (hc : X.calm = true) (hg : Gl X "all") (hm : X.mg "all" = none) (ha : VA X W [e] fs) (he : starEach (e :: []) X.env = (false, eval e X.env) :: starEach [] X.env := by rfl) : VE X W (.Call (.Name "all" p) [e] [] pos) (fun e M => rbind (fs e M) bAll) :=
  ve_bf (cr_all hc) (fun ρ M H us vs Q E g r q => by
    unfold bAll at q
    split at q
    · obtain ⟨u, us', rfl, rv, rfl⟩ := r
      split at q
      · rename_i l el
        split at q
        · rename_i ns en
          obtain ⟨a, ys, rfl, h, rl⟩ := rdL_rep g rv el
          have e2 := blsOf_rep rl en
          subst e2
          exact ⟨a, ns, rfl, h, q ρ _ H .refl g rfl⟩
        · exact q.elim
      · exact q.elim
    · exact q.elim) hg hm (by decide +kernel) ha (by decide) (by decide) he
theorem ve_any (hc : X.calm = true) (hg : Gl X "any") (hm : X.mg "any" = none) (ha : VA X W [e] fs) (he : starEach (e :: []) X.env = (false, eval e X.env) :: starEach [] X.env := by rfl) : VE X W (.Call (.Name "any" p) [e] [] pos) (fun e M => rbind (fs e M) bAny) :=
  ve_bf (cr_any hc) (fun ρ M H us vs Q E g r q => by
    unfold bAny at q
    split at q
    · obtain ⟨u, us', rfl, rv, rfl⟩ := r
      split at q
      · rename_i l el
        split at q
        · rename_i ns en
          obtain ⟨a, ys, rfl, h, rl⟩ := rdL_rep g rv el
          have e2 := blsOf_rep rl en
          subst e2
          exact ⟨a, ns, rfl, h, q ρ _ H .refl g rfl⟩
        · exact q.elim
      · exact q.elim
    · exact q.elim) hg hm (by decide +kernel) ha (by decide) (by decide) he
end
end Vl
set_option Elab.async false
set_option linter.all false
set_option maxRecDepth 100000
set_option maxHeartbeats 1000000
/-! Vx5: != by a class's own ==. -/
namespace Vx
open PySem PySem.Spec PySem.Calls PyProof.Rows PySem.W
theorem slot_one : PySem.Slot "object" "__ne__" "object.__ne__" := .of (owner := "object") (n := "__ne__") (by rw [typeLookup_type, builtinLookup_eq_fast]; kernel_rfl) (by decide +kernel) (by decide +kernel) (by decide +kernel)
  (by first | exact .inl (by decide +kernel) | exact .inr (by decide +kernel)) (by rw [isSubtype_type]; kernel_rfl)
section
variable {prog : Program} {w : World} {A : Around} {E : Value → Shared → Prop} {s : Shared} {K : Frag} {x C f : Addr} {ox : Obj} {od : Option Obj} {b tb : Value}
theorem one_bound {args : List Value} {Q : Option Value → Shared → Prop} (X : K.In s.heap) (I : InstAt s.heap x ox C od) (hs : findIn K (.ref C) "__ne__" = some (some (.builtin "object.__ne__")))
    (h : wpAny (model prog w) A (call (.builtin "object.__ne__") (.ref x :: args)) (fun v => Q (some v)) E s) : wpAny (model prog w) A (callSpecialIfBound? (.ref x) "__ne__" args) Q E s := by
  simp only [callSpecialIfBound?, bindSpecialIfBound?]
  refine wpAny_holding (wpAny_bind (wpAny_bind (wpAny_bind (I.type.here ((looks_findIn X hs).here ?_)))))
  refine wpAny_bind (wpAny_askSetting (wpAny_ite ?_))
  have fin : wpAny (model prog w) A (call (.builtin "object.__ne__") ([.ref x] ++ args) >>= fun v => pure (some v)) Q E s := wpAny_bind (wpAny_mono h (fun v s' h' => wpAny_pure h') fun _ _ h' => h')
  have hbind : Looks (model prog w) s.heap (bindSpecial (.builtin "object.__ne__") (.ref x)) (.builtin "object.__ne__", [.ref x]) := Looks.of_pure (slot_one.bind (.ref x))
  split
  · exact wpAny_bind (hbind.here (wpAny_pure (by exact fin)))
  · exact wpAny_tryCatch (wpAny_bind (hbind.here (wpAny_pure (by exact fin))))
theorem one_call {Q : Value → Shared → Prop} (hu : A.in1.units < cLine) (X : K.In s.heap) (I : InstAt s.heap x ox C od) (ho : mroIn K C (.type "object") = some true) (he : findIn K (.ref C) "__eq__" = some (some (.ref f))) (hf : isFn K (.ref f) = true)
    (h : wpAny (model prog w) A.in1 (call (.ref f) [.ref x, b]) (fun v s' => ∃ c, v = .bool c ∧ Q (.bool (!c)) s') E s) : wpAny (model prog w) A (call (.builtin "object.__ne__") [.ref x, b]) Q E s := by
  have sub : Looks (model prog w) s.heap (isInstance (.ref x) (.type "object")) true := I.type.andThen (looks_mroIn X ho)
  refine wpAny_call (codeAny_call_builtin slot_one.plain F.cmpEntry_ne (@check_slot (model prog w) _ _ s "object.__ne__" "object" "__ne__" (.ref x) [b] [] _ F.cmpKind_ne F.cmpSplit_ne sub (F.cmpArgs_ne (.ref x) b) ?_))
  unfold Builtin.«object.__ne__»
  refine wpAny_bind (wpAny_of_eq (a := ((Value.ref x : Value), [b])) (by first | rfl | (simp only [slotArgs]; rfl)) ?_)
  refine wpAny_bind (wpAny_cRoomFor hu ?_)
  refine wpAny_bind (ifBound_K X I he hf (wpAny_mono h (fun v s' hv => ?_) fun _ _ e => e))
  obtain ⟨c, rfl, q⟩ := hv
  show wpAny _ _ (do let r ← truthy (.bool c); ret (.bool (!r))) _ _ _
  exact wpAny_bind (wpAny_truthy_bool (wpAny_pure q))
theorem ne_K {Q : Value → Shared → Prop} (hu : A.units < cLine) (hu1 : A.in1.units < cLine) (X : K.In s.heap) (I : InstAt s.heap x ox C od) (hb : Looks (model prog w) s.heap (typeOf b) tb) (hn : notFirst K C tb = true) (hs : findIn K (.ref C) "__ne__" = some (some (.builtin "object.__ne__")))
    (ho : mroIn K C (.type "object") = some true) (he : findIn K (.ref C) "__eq__" = some (some (.ref f))) (hf : isFn K (.ref f) = true)
    (h : wpAny (model prog w) A.in1 (call (.ref f) [.ref x, b]) (fun v s' => ∃ c, v = .bool c ∧ Q (.bool (!c)) s') E s) : wpAny (model prog w) A (richCompare .NotEq (.ref x) b) Q E s := by
  have one : wpAny (model prog w) A (tryCompare (.ref x) "__ne__" b) (fun r s' => ∃ v, r = some v ∧ Q v s') E s := by
    unfold tryCompare
    refine wpAny_bind (one_bound X I hs (one_call hu1 X I ho he hf (wpAny_mono h (fun v s' hv => ?_) fun _ _ e => e)))
    obtain ⟨c, rfl, q⟩ := hv
    exact ⟨c, rfl, wpAny_pure ⟨_, rfl, q⟩⟩
  unfold richCompare
  simp only [oneThing_ref]
  refine wpAny_holding (wpAny_bind (wpAny_cRoomFor hu ?_))
  refine wpAny_bind (I.type.here (wpAny_bind (hb.here ?_)))
  split
  · rename_i q
    have e : subIn K tb (.ref C) = some false := by
      rcases Bool.or_eq_true_iff.mp hn with e | e
      · rw [beq_iff_eq.mp e] at q; simp at q
      · exact beq_iff_eq.mp e
    refine wpAny_bind ((looks_subIn X e).here ?_)
    simp only [Bool.false_eq_true, if_false]
    refine wpAny_bind (wpAny_mono one (fun r s' z => ?_) fun _ _ e => e)
    obtain ⟨v, rfl, hq⟩ := z
    exact wpAny_pure hq
  · refine wpAny_bind (wpAny_pure ?_)
    simp only [Bool.false_eq_true, if_false]
    refine wpAny_bind (wpAny_mono one (fun r s' z => ?_) fun _ _ e => e)
    obtain ⟨v, rfl, hq⟩ := z
    exact wpAny_pure hq
end
end Vx
set_option Elab.async false
set_option linter.all false
set_option maxRecDepth 100000
set_option maxHeartbeats 1000000
/-! Vl12: append, stores by subscript, +=, calls of a def held by a name, a class's own == and !=. -/
namespace Vl
open PySem PySem.Spec PyProof.Rows L2 Vx
section
variable {X : Cx} {W : WX} {e e2 o i value : Expr} {es : List Expr} {f g h : EF} {p pos pos' apos : Pos} {x : Str} {fs : En → Mem → R (List Val)} {j k : Nat}

/-! ### xs.append(x) -/
def opAppend (v w : Val) (M : Mem) : R Val := match v, w with
  | .obj k, .d x => (match M[k]? with
    | some (.lst l) => if l.length < big then .ok (.d .non) (M.set k (.lst (l ++ [x]))) else .bad
    | _ => .bad)
  | _, _ => .bad
def isLstO (M : Mem) (v : Val) : Bool := match v with
  | .obj k => (match M[k]? with
    | some (.lst _) => true
    | _ => false)
  | _ => false
def fAppend (f g : EF) : EF := fun e M => rbind (f e M) fun v M1 => if isLstO M1 v = true then rbind (g e M1) fun w M2 => opAppend v w M2 else .bad
theorem ve_append (ho : VE X W o f) (he : VE X W e g) (hbase : attributeBase o "append" X.env (eval o X.env) = eval o X.env := by rfl)
    (hfew : ((backTo pos (starEach [e] X.env)).all (fun x => !x.1) && (backToKw pos (keywordEach [] X.env)).all (fun x => x.1.isSome)
      && decide (([e] : List Expr).length + ([] : List Keyword).length + (if ([] : List Keyword).isEmpty then 0 else 1) < 30)) = true := by rfl)
    (hline : (apos.endLine == pos.line) = true := by rfl) (hs : starEach [e] X.env = (false, eval e X.env) :: starEach [] X.env := by rfl) (hpl : (backTo pos (starEach [] X.env)).any (·.1) = false := by rfl) :
    VE X W (.Call (.Attribute o "append" apos) [e] [] pos) (fAppend f g) := pe_imp (pe_bm PySem.F.plainAttrs_list PySem.F.slot_list_append PySem.F.type_list_append mt_append ho (pa_cons he pa_nil hs) hbase hfew hline hs hpl) fun σ H Q hh => by
  refine lift_bind hh fun ρ env M H1 u v es rv q => ?_
  split at q
  · rename_i hl
    unfold isLstO at hl
    split at hl
    · rename_i k
      split at hl
      · rename_i l el
        obtain ⟨us, h1, _⟩ := es.gs.at_ k _ el
        obtain ⟨rfl, hk⟩ := rv
        refine ⟨.inl ⟨rfl, us, .inl (.inl h1)⟩, ρ, env, M, es, (Kont.bind q).mono (fun u2 H2 ⟨ρ2, M2, w, s2, g2, rw', q2⟩ => ?_) fun _ _ _ z => z⟩
        unfold opAppend at q2
        split at q2
        · rename_i k' x ek
          cases ek
          split at q2
          · rename_i l2 el2
            split at q2
            · rename_i hz
              obtain ⟨ws, h2, rl⟩ := g2.at_ k _ el2
              have lk : Live M2 k := ⟨_, el2, by intro z; cases z⟩
              have st := write_step g2 lk (.lst (ws ++ [u2])) (.lst (l2 ++ [x]))
              refine ⟨ρ2 k, ws, u2, by rw [s2.rho k hk], rfl, h2, by rw [RepL.length rl]; exact big_lt hz, ?_⟩
              exact q2 ρ2 .non _ st (g2.write lk ⟨_, upd_same, RepL.mono st.keep (RepL.append rl ⟨u2, [], rfl, rw', rfl⟩)⟩) rfl
            · exact q2.elim
          · exact q2.elim
        · exact q2.elim
      · cases hl
    · cases hl
  · exact q.elim

/-! ### xs[i] = value -/
def putL (v : Val) (o i : Val) (M : Mem) : Option Mem := match o, i, v with
  | .obj k, .d (.int n), .d x => (match M[k]? with
    | some (.lst l) => (match ixN l.length n with
      | some j => some (M.set k (.lst (l.set j x)))
      | none => none)
    | _ => none)
  | _, _, _ => none
def sSetL (fo fi fv : EF) : SF := fun e M => rO (fv e M) e fun v M1 => rO (fo e M1) e fun o M2 => rO (fi e M2) e fun i M3 => match putL v o i M3 with
  | some M4 => .nx e M4
  | none => .bad
theorem ps_setItem {to ti te : TE} {t : TSet} (hv : PE X value te) (ho : PE X o to) (hi : PE X i ti) (hs : PSet X t) (hsw : swapsWith value (some (.Subscript o i pos')) pos.line X.env = pure false := by rfl) :
    PS X (.Assign [.Subscript o i pos'] value pos) (fun D σ H => te σ H fun v H1 => to σ H1 fun x H2 => ti σ H2 fun y H3 => t x y v H3 fun H4 => D.nx σ H4) := by
  refine ⟨fun pins s σ H D I h0 => ?_⟩
  refine wpAny_Assign_Subscript (thn (hv.run pins s σ H _ I h0) fun r s1 ⟨v, H1, I1, rv, q1⟩ => thn (ho.run pins s1 σ H1 _ I1 q1) fun u s2 ⟨x, H2, I2, rx, q2⟩ => thn (hi.run pins s2 σ H2 _ I2 q2) fun iv s3 ⟨y, H3, I3, ry, q3⟩ => ?_) hsw
  exact thn (hs pins s3 σ H3 x y v u iv r _ I3 rx ry rv q3) fun _ s4 ⟨H4, I4, q4⟩ => ⟨σ, H4, I4, q4⟩
theorem putL_ok {ρ : Rho} {M M' : Mem} {H : Hp} {u y z : V} {v o i : Val} (g : Gs (gm X) ρ M H) (rv : RepV (gm X) ρ M H u v) (ro : RepV (gm X) ρ M H y o) (ri : RepV (gm X) ρ M H z i) (e : putL v o i M = some M') :
    ∃ p xs n j, y = .ref p ∧ z = .int n ∧ H p = some (.lst xs) ∧ ixN xs.length n = some j ∧ Stp ρ M H ρ M' (upd H p (.lst (xs.set j u))) ∧ Gs (gm X) ρ M' (upd H p (.lst (xs.set j u))) := by
  unfold putL at e
  split at e
  · rename_i k n x
    split at e
    · rename_i l el
      split at e
      · rename_i j ej
        cases e
        obtain ⟨us, h1, rl⟩ := g.at_ k _ el
        have lk : Live M k := ⟨_, el, by intro z; cases z⟩
        have st := write_step g lk (.lst (us.set j u)) (.lst (l.set j x))
        exact ⟨_, us, n, j, ro.1, ri, h1, by rw [RepL.length rl]; exact ej, st, g.write lk ⟨_, upd_same, RepL.mono st.keep (RepL.set rv j rl)⟩⟩
      · cases e
    · cases e
  · cases e
theorem vs_setL (hv : VE X W value f) (ho : VE X W o g) (hi : VE X W i h) (hsw : swapsWith value (some (.Subscript o i pos')) pos.line X.env = pure false := by rfl) : VS X W (.Assign [.Subscript o i pos'] value pos) (sSetL g h f) :=
  ps_imp (ps_setItem hv ho hi set_list hsw) fun D σ H hh => by
    refine liftS_bind hh fun ρ env M H1 u v es rv q => ⟨ρ, env, M, es, (Kont.toS es q).mono (fun y H2 ⟨ρ2, M2, o', s2, es2, ro, q2⟩ => ⟨ρ2, env, M2, es2, (Kont.toS es2 q2).mono (fun z H3 ⟨ρ3, M3, i', s3, es3, ri, q3⟩ => ?_) fun _ _ _ z => z⟩) fun _ _ _ z => z⟩
    split at q3
    · rename_i M4 e4
      obtain ⟨p, xs, n, j, rfl, rfl, h1, ej, st, g4⟩ := putL_ok es3.gs (rv.step (s2.trans s3)) (ro.step s3) ri e4
      exact ⟨p, xs, n, j, rfl, rfl, h1, ej, q3 ρ3 σ _ st (es3.step st g4)⟩
    · exact q3.elim

/-! ### name += int, name -= int -/
def sAug (c : Int → Int → Int) (i : Nat) (f : EF) : SF := fun e M => match e[i]? with
  | some (some (.d (.int a))) => rO (f e M) e fun v M1 => (match v with
    | .d (.int b) => .nx (e.set i (some (.d (.int (c a b))))) M1
    | _ => .bad)
  | _ => .bad
theorem sAug_ok {c : Int → Int → Int} {i : Nat} {D : Ends} {σ : L2.St} {H : Hp} (hh : liftS (gm X) W (sAug c i f) D σ H) : ∃ x, σ[i]? = some (some x) ∧ lift (gm X) W f σ H fun y H1 => ∃ a b, x = .int a ∧ y = .int b ∧ D.nx (σ.set i (some (.int (c a b)))) H1 := by
  obtain ⟨ρ, env, M, es, q⟩ := hh
  unfold sAug at q
  split at q
  · rename_i a ea
    obtain ⟨u, eu, ru⟩ := es.sl i _ ea
    cases ru
    refine ⟨_, eu, ρ, env, M, es, (Kont.toS es q).mono (fun y H1 ⟨ρ1, M1, v, s1, es1, rv, q1⟩ => ?_) fun _ _ _ z => z⟩
    split at q1
    · rename_i b
      exact ⟨a, b, rfl, rv, q1 ρ1 _ H1 .refl (es1.set (v := .d (.int (c a b))) (show V.int _ = V.int _ from rfl))⟩
    · exact q1.elim
  · exact q.elim
theorem vs_augAdd (i : Nat) {y : Str} (he : VE X W e f) (hN : X.N.Nodup) (hi : X.N[i]? = some y := by rfl) (hx : Loc X.env.scope y := by first | exact .inl rfl | exact .inr rfl) (hf : X.fn y = true ∨ X.env.scope.names.lookup y = some .local := by first | exact .inl rfl | exact .inr rfl) :
    VS X W (.AugAssign (.Name y pos') .Add e pos) (sAug (fun a b => a + b) i f) := ps_imp (ps_aug hN hi hx he in_add hf) fun D σ H hh => by
  obtain ⟨x, e1, l⟩ := sAug_ok hh
  obtain ⟨ρ, env, M, es, q⟩ := l
  exact ⟨x, e1, ρ, env, M, es, q.mono (fun y H1 ⟨a, b, ea, eb, z⟩ => ⟨a, b, ea, eb, z⟩) fun _ _ _ z => z⟩
theorem vs_augSub (i : Nat) {y : Str} (he : VE X W e f) (hN : X.N.Nodup) (hi : X.N[i]? = some y := by rfl) (hx : Loc X.env.scope y := by first | exact .inl rfl | exact .inr rfl) (hf : X.fn y = true ∨ X.env.scope.names.lookup y = some .local := by first | exact .inl rfl | exact .inr rfl) :
    VS X W (.AugAssign (.Name y pos') .Sub e pos) (sAug (fun a b => a - b) i f) := ps_imp (ps_aug hN hi hx he in_sub hf) fun D σ H hh => by
  obtain ⟨x, e1, l⟩ := sAug_ok hh
  obtain ⟨ρ, env, M, es, q⟩ := l
  exact ⟨x, e1, ρ, env, M, es, q.mono (fun y H1 ⟨a, b, ea, eb, z⟩ => ⟨a, b, ea, eb, z⟩) fun _ _ _ z => z⟩

/-! ### a def held by a name -/
abbrev Tab := List (Str × (List Val → Mem → R Val))
def tabOf (T : Tab) (x : Str) : Option (List Val → Mem → R Val) := T.lookup x
def fCallL (i : Nat) (T : Tab) (fs : En → Mem → R (List Val)) : EF := fun e M => match e[i]? with
  | some (some (.d (.glo x))) => (match tabOf T x with
    | some φ => rbind (fs e M) φ
    | none => .bad)
  | _ => .bad
theorem ve_callL (i : Nat) {T : Tab} {y : Str} (cc : ∀ x φ, tabOf T x = some φ → FCal X.prog X.w X.K X.mg X.base j x φ) (hr : Room k X.A) (hk : j ≤ k) (tk : L2N.Takes X W) (ha : VA X W (e :: es) fs) (hN : X.N[i]? = some y := by rfl) (hv : Vis X.env.scope y := by first | exact Or.inl rfl | exact Or.inr (Or.inl rfl) | exact Or.inr (Or.inr rfl))
    (hdb : (y == ("__debug__" : Str)) = false := by decide) (hcd : (y == ("__classdict__" : Str)) = false := by decide) (he : starEach (e :: es) X.env = (false, eval e X.env) :: starEach es X.env := by rfl) (hpl : (backTo pos (starEach es X.env)).any (·.1) = false := by rfl) :
    VE X W (.Call (.Name y p) (e :: es) [] pos) (fCallL i T fs) := by
  refine ⟨fun pins s σ H Q I hh => ?_⟩
  obtain ⟨ρ, env, M, es1, q⟩ := hh
  unfold fCallL at q
  split at q
  · rename_i x ex
    split at q
    · rename_i φ eφ
      obtain ⟨fa, fd, ps, F, hm, kp, hb⟩ := (cc x φ eφ).ex
      replace F : FnOk X.prog X.w X.K X.mg X.base (L2N.CX X.prog X.w) j fa fd ps (spF (gm X) φ) := by rw [gm_calm hr.hd]; exact F
      obtain ⟨u, eu, w0, hw, rw0⟩ := es1.sl i _ ex
      have ew : w0 = .ref fa := by
        have z : X.mg x = some w0 := hw
        rw [hm] at z
        exact (Option.some.inj z).symm
      subst ew
      have eu2 : u = .ref fa := by
        cases u <;> first | (cases rw0; done) | (obtain ⟨_, z⟩ := rw0; cases z) | skip
        cases rw0; rfl
      subst eu2
      refine wpAny_Call_Name_kw (thn ((pe_var (pos := p) hN hv hdb hcd).run pins s σ H (fun v H1 => v = .ref fa ∧ H1 = H) I ⟨.ref fa, eu, rfl, rfl⟩) fun u s1 ⟨v, H1, I1, r1, q1⟩ => ?_)
      obtain ⟨rfl, rfl⟩ := q1
      cases r1
      have h2 : lifts (gm X) W fs σ H1 (fun vs H2 => spF (gm X) φ vs H2 Q (fun c d H' => W c d σ H')) := ⟨ρ, env, M, es1, (Konts.bind q).mono (fun us H2 ⟨ρ2, M2, ws, s2, g2, r2, q2⟩ => ⟨ρ2, M2, ws, g2, r2, q2⟩) fun _ _ _ z => z⟩
      refine PySem.W.callWith_K (h₀ := X.base) I.ok.mod.kin kp (thn (ha.run pos pins s1 σ _ _ I1 h2) fun us s2 ⟨vs, H2, I2, r, q⟩ => ⟨I2.kIn, ?_⟩) he hpl
      exact run_cal F hr hk hb tk I2 r q
    · exact q.elim
  · exact q.elim

/-! ### own == -/
/-- the class cn has its own ==, that keeps φ -/
structure EqCal (P : Program) (w : World) (K : PySem.W.Frag) (mg : Str → Option Value) (base : Heap) (k : Nat) (cn : Str) (φ : List Val → Mem → R Val) : Prop where
  ex : ∃ C f fd ps, FnV P w K mg base k f fd ps φ ∧ mg cn = some (.ref C) ∧ IsCls K C ∧ PySem.W.findIn K (.ref C) "__eq__" = some (some (.ref f)) ∧ PySem.W.isFn K (.ref f) = true ∧ PySem.W.findIn K (.ref C) "__ne__" = some (some (.builtin "object.__ne__")) ∧
    Binds K fd ps [] ∧ ∀ n ∈ tys, PySem.W.subIn K (.type n) (.ref C) = some false
def tyIs (t : Ty) (cn : Str) : Bool := match t with
  | .b _ => true
  | .c c => c == cn
def opOwn (neg : Bool) (cn : Str) (φ : List Val → Mem → R Val) (v w : Val) (M : Mem) : R Val := match insOf M v with
  | some (C, _) => (match tyOf M w with
    | some t => if C = cn ∧ tyIs t cn = true then (match φ [v, w] M with
      | .ok (.d (.bl b)) M1 => .ok (.d (.bl (if neg = true then !b else b))) M1
      | _ => .bad) else .bad
    | none => .bad)
  | none => .bad
def rOwn (X : Cx) (neg : Bool) (cn : Str) (φ : List Val → Mem → R Val) : R2 := fun x y H Q => ∃ a dx us C tb, x = .ref a ∧ H a = some (.ins C dx us) ∧ X.mg cn = some (.ref C) ∧ TyX X.K H y tb ∧ PySem.W.notFirst X.K C tb = true ∧
  spF (gm X) φ [x, y] H (fun u H1 => ∃ b, u = .bl b ∧ Q (.bl (if neg = true then !b else b)) H1) (fun _ _ _ => False)
section
variable {cn : Str} {φ : List Val → Mem → R Val}
theorem k_own (neg : Bool) (cc : EqCal X.prog X.w X.K X.mg X.base j cn φ) : OpK (gm X) (opOwn neg cn φ) (rOwn X neg cn φ) := fun ρ M H x y v w Q E g rx ry q => by
  obtain ⟨C, fa, fd, ps, F, hm, ic, hs, hf, hne, hb, hsub⟩ := cc.ex
  unfold opOwn at q
  split at q
  · rename_i C0 gs ei
    split at q
    · rename_i t et
      split at q
      · rename_i hc
        obtain ⟨rfl, ht⟩ := hc
        obtain ⟨a, C', dx, us, rfl, h, mc, _⟩ := insOf_rep g rx ei
        have : C' = C := by
          have z : X.mg C0 = some (.ref C') := mc
          rw [hm] at z; cases z; rfl
        subst this
        have ty := tyOf_rep g ry et
        have key : ∃ tb, TyX X.K H y tb ∧ PySem.W.notFirst X.K C' tb = true := by
          cases t with
          | b n =>
            obtain ⟨hn, ty⟩ := ty
            refine ⟨_, ty, ?_⟩
            unfold PySem.W.notFirst
            rw [hsub n hn]
            simp
          | c c =>
            have ec : c = C0 := by simpa [tyIs] using ht
            subst ec
            obtain ⟨Cy, my, ty⟩ := ty
            have : Cy = C' := by
              have z : X.mg c = some (.ref Cy) := my
              rw [hm] at z; cases z; rfl
            subst this
            exact ⟨_, ty ic, by unfold PySem.W.notFirst; simp⟩
        obtain ⟨tb, ty2, hn⟩ := key
        refine ⟨a, dx, us, C', tb, rfl, h, hm, ty2, hn, ρ, M, [v, w], g, ⟨_, _, rfl, rx, _, _, rfl, ry, rfl⟩, ?_⟩
        split at q
        · rename_i b M1 eφ
          rw [eφ]
          intro ρ1 u H1 s1 g1 r1
          exact ⟨b, r1, q ρ1 _ H1 s1 g1 rfl⟩
        · exact q.elim
      · exact q.elim
    · exact q.elim
  · exact q.elim
theorem run_in1 {fa : Addr} {fd : FuncData} {ps : List Str} {sp : Sp} {pins : List (Addr × Obj)} {σ : L2.St} {H : Hp} {s : Shared} {Q : VK} {us : List Value} {vs : List V} {A : Around} (F : FnOk X.prog X.w X.K X.mg X.base (L2N.CX X.prog X.w) j fa fd ps sp) (hr : Room k A) (hA : A.frames = X.A.frames) (hk : j ≤ k) (hb : Binds X.K fd ps [])
    (I : Inv X pins σ H s) (r : Vals vs us) (hh : sp vs H Q (fun _ _ _ => False)) : wpAny (model X.prog X.w) A (call (.ref fa) us) (EP X pins σ Q) X.xe s := by
  have hl : (us ++ []).length = ps.length := by rw [List.append_nil, ← r.length]; exact F.len _ _ _ _ hh
  have hb1 := hb s us I.kIn hl
  rw [List.append_nil] at hb1
  have e0 : Env0 X.prog X.w X.K X.mg X.base A X.stack s H := by
    have e := I.env0
    exact ⟨by rw [hA]; exact e.frames, e.mod, e.bs, e.bsz, e.funs, e.frf, e.hok, e.bare⟩
  refine wpAny_call (codeAny_mono (F.run A X.stack s H ⟨us, []⟩ us vs Q _ (hr.mono hk) e0 hb1 r hh) fun rr s' hq => ?_)
  cases rr with
  | error e1 =>
    have z := L2N.XE.of_call (W := W0) I (fun _ _ _ z => z) hq
    exact absurd z (fun ⟨_, _, _, _, _, _, _, _, _, _, _, _, _, _, _, _, w⟩ => w)
  | ok fl =>
    cases fl with
    | ret u => exact I.after hq
    | next => exact False.elim hq
    | brk => exact False.elim hq
    | cont => exact False.elim hq
theorem op_ownEq (cc : EqCal X.prog X.w X.K X.mg X.base j cn φ) (hr : Room k X.A) (hk : j ≤ k) : OpR X (compareOp .Eq) (rOwn X false cn φ) := by
  intro pins s σ H x y v u Q I rx ry hh
  obtain ⟨C, fa, fd, ps, F, hm, ic, hs, hf, hne, hb, hsub⟩ := cc.ex
  obtain ⟨a, dx, us, C', tb, rfl, ha, hm', ty, hn, sp⟩ := hh
  have : C' = C := by rw [hm] at hm'; cases hm'; rfl
  subst this
  replace F : FnOk X.prog X.w X.K X.mg X.base (L2N.CX X.prog X.w) j fa fd ps (spF (gm X) φ) := by rw [gm_calm hr.hd]; exact F
  obtain rfl : v = Value.ref a := rx
  obtain ⟨P, Z, p, hx⟩ := kit_of I ry ty
  obtain ⟨mA, J, _⟩ := ins_get I.hok ha
  obtain ⟨od, J, _⟩ := J.look
  obtain ⟨m, hF⟩ := I.fr
  refine PySem.W.cmp_ofEq (PySem.W.cmp_K (op := .Eq) (tb := tb) hr.units0 hF I.ok.mod.kin J (Z.ty _ _ I.kIn p) hn hs hf ?_)
  refine wpAny_mono (run_in1 F hr rfl hk hb I (.cons (show L2.RelV (V.ref a) (Value.ref a) from rfl) (.cons ry .nil)) sp) (fun r s' hq => ?_) fun _ _ e => e
  obtain ⟨z, H', I', rz, b, ez, q⟩ := hq
  subst ez
  cases rz
  exact ⟨.bl b, H', I', rfl, q⟩
theorem op_ownNe (cc : EqCal X.prog X.w X.K X.mg X.base j cn φ) (hr : Room k X.A) (hk : j + 1 ≤ k) : OpR X (compareOp .NotEq) (rOwn X true cn φ) := by
  intro pins s σ H x y v u Q I rx ry hh
  obtain ⟨C, fa, fd, ps, F, hm, ic, hs, hf, hne, hb, hsub⟩ := cc.ex
  obtain ⟨a, dx, us, C', tb, rfl, ha, hm', ty, hn, sp⟩ := hh
  have : C' = C := by rw [hm] at hm'; cases hm'; rfl
  subst this
  replace F : FnOk X.prog X.w X.K X.mg X.base (L2N.CX X.prog X.w) j fa fd ps (spF (gm X) φ) := by rw [gm_calm hr.hd]; exact F
  obtain rfl : v = Value.ref a := rx
  obtain ⟨P, Z, p, hx⟩ := kit_of I ry ty
  obtain ⟨mA, J, _⟩ := ins_get I.hok ha
  obtain ⟨od, J, _⟩ := J.look
  have hr1 : Room j X.A.in1 := (hr.mono hk).in1
  refine PySem.W.cmp_ofNotEq (ne_K hr.units0 hr1.units0 I.kIn J (Z.ty _ _ I.kIn p) hn hne ic.hm hs hf ?_)
  refine wpAny_mono (run_in1 F hr1 rfl (Nat.le_refl _) hb I (.cons (show L2.RelV (V.ref a) (Value.ref a) from rfl) (.cons ry .nil)) sp) (fun r s' hq => ?_) fun _ _ e => e
  obtain ⟨z, H', I', rz, b, ez, q⟩ := hq
  subst ez
  cases rz
  exact ⟨b, rfl, .bl (!b), H', I', rfl, q⟩
theorem vc_eqOwn (cc : EqCal X.prog X.w X.K X.mg X.base j cn φ) (hr : Room k X.A) (hk : j ≤ k) (ha : VE X W e f) (hb : VE X W e2 g) : VC X W .Eq e e2 (fOp (opOwn false cn φ) f g) := vc_op (op_ownEq cc hr hk) (k_own false cc) ha hb
theorem vc_neOwn (cc : EqCal X.prog X.w X.K X.mg X.base j cn φ) (hr : Room k X.A) (hk : j + 1 ≤ k) (ha : VE X W e f) (hb : VE X W e2 g) : VC X W .NotEq e e2 (fOp (opOwn true cn φ) f g) := vc_op (op_ownNe cc hr hk) (k_own true cc) ha hb
end
end
end Vl
set_option Elab.async false
set_option linter.all false
set_option maxRecDepth 100000
set_option maxHeartbeats 1000000
/-! Vl13: what a printed derivation leans on: names of the module, defs as functions, comprehension blocks, pairs of names. -/
namespace Vl
open PySem PySem.Spec PyProof.Rows L2 Vx

/-! ### a def by its body -/
noncomputable def phi (n m : Nat) (F : SF) (ws : List Val) (M : Mem) : R Val := if ws.length = m then callF n F ws M else .bad
section
variable {P : Program} {w : World} {K : PySem.W.Frag} {mg : Str → Option Value} {base : Heap}
abbrev BodyOk (P : Program) (w : World) (K : PySem.W.Frag) (mg : Str → Option Value) (base : Heap) (N : List Str) (qual : Str) (scope : Scope) (body : List Stmt) (k : Nat) (F : SF) : Prop := ∀ (f : Addr) (cdv : Value) (A : Around) (outer : List Env) (s : Shared) (H : Hp) (E : XK), Room k (A.deeper (envOfC qual scope s.heap.objs.size f cdv)) →
  L2N.Takes (cxOf (L2N.CX P w) P w K mg base N qual scope f cdv A outer s H E) (fun c d _ H' => E c d H') → PassesOwn (model P w) (cxOf (L2N.CX P w) P w K mg base N qual scope f cdv A outer s H E).A (cxOf (L2N.CX P w) P w K mg base N qual scope f cdv A outer s H E).env (cxOf (L2N.CX P w) P w K mg base N qual scope f cdv A outer s H E).xe →
  VSs (cxOf (L2N.CX P w) P w K mg base N qual scope f cdv A outer s H E) (fun c d _ H' => E c d H') body F
theorem fnV_D {x qual : Str} {params : Arguments} {body : List Stmt} {scope : Scope} {f : Addr} {fd : FuncData} {kws : List (Str × V)} {N ps : List Str} {k : Nat} {F : SF} (D : FunD K x qual params body scope [] kws f fd) (S : FnScope N ps scope) (hb : BodyOk P w K mg base N qual scope body k F) :
    FnV P w K mg base (k + 1) f fd ps (phi N.length ps.length F) := by
  obtain ⟨oc, od, dV, kV, doc, pm, an, cdv, ct, osl, rfl, lk, hcd, _, _⟩ := D.ex
  refine fnV_of lk hcd S (fun A outer s H E hr tk hp => hb f cdv A outer s H E hr tk hp) fun ws M h => ?_
  unfold phi at h ⊢
  by_cases z : ws.length = ps.length
  · exact ⟨z, by rw [if_pos z]⟩
  · rw [if_neg z] at h
    exact absurd rfl h
theorem fcal_D {x qual : Str} {params : Arguments} {body : List Stmt} {scope : Scope} {f : Addr} {kws : List (Str × V)} {N ps : List Str} {k : Nat} {F : SF} (D : ∃ fd, FunD K x qual params body scope [] kws f fd) (hm : mg x = some (.ref f)) (S : FnScope N ps scope) (hb : BodyOk P w K mg base N qual scope body k F)
    (hbind : ∀ (_ _ _ _ : Value) (_ : Option Addr) (_ _ : Value) (us : List Value), us.length = ps.length → True) (bn : ∀ fd, FunD K x qual params body scope [] kws f fd → Binds K fd ps []) : FCal P w K mg base (k + 1) x (phi N.length ps.length F) := by
  obtain ⟨fd, D⟩ := D
  exact ⟨f, fd, ps, fnV_D D S hb, hm, D.kp, bn fd D⟩
end

/-! ### names of the module -/
section
variable {X : Cx} {W : WX} {x : Str} {pos : Pos}
theorem ve_gi {i : Int} (hm : ∃ t, X.mg x = some (.int i t)) (hg : Gl X x := by rfl) (hd : (x == ("__debug__" : Str)) = false := by decide) : VE X W (.Name x pos) (fC (.int i)) := by
  obtain ⟨t, hm⟩ := hm
  exact ve_gint hg hm ⟨t, rfl⟩ hd
theorem ve_gs {z : Str} (hm : ∃ t, X.mg x = some (.str z t)) (hg : Gl X x := by rfl) (hd : (x == ("__debug__" : Str)) = false := by decide) : VE X W (.Name x pos) (fC (.str z)) := by
  obtain ⟨t, hm⟩ := hm
  exact ve_gstr hg hm ⟨t, rfl⟩ hd
theorem ve_gf (hm : ∃ a, X.mg x = some (.ref a)) (hg : Gl X x := by rfl) (hd : (x == ("__debug__" : Str)) = false := by decide) : VE X W (.Name x pos) (fC (.glo x)) := by
  obtain ⟨a, hm⟩ := hm
  exact ve_glo hg hm hd
end

/-! ### comprehension blocks -/
def blkB (N : List Str) (sc scope : Scope) (own : List (Str × Nat)) : Bool := decide (scope.kind = .function) && (scope.names.all (fun y => decide (scope.names.lookup y.1 = some y.2)) && (own.all (fun p => decide (N[p.2]? = some p.1)) &&
  (scope.names.all (fun y => !decide (y.2 = .free) || (decide (sc.names.lookup y.1 = some .cell) || decide (sc.names.lookup y.1 = some .free))) && scope.names.all (fun y => !(decide (y.2 = .local) || decide (y.2 = .cell)) || ((own.map (·.1)).contains y.1 || !N.contains y.1)))))
theorem blk_of {N : List Str} {sc scope : Scope} {own : List (Str × Nat)} (h : blkB N sc scope own = true) : BlkOk N sc scope own := by
  unfold blkB at h
  obtain ⟨h1, h⟩ := Bool.and_eq_true_iff.mp h
  obtain ⟨h2, h⟩ := Bool.and_eq_true_iff.mp h
  obtain ⟨h3, h⟩ := Bool.and_eq_true_iff.mp h
  obtain ⟨h4, h5⟩ := Bool.and_eq_true_iff.mp h
  refine ⟨of_decide_eq_true h1, fun y hy => of_decide_eq_true (List.all_eq_true.mp h2 y hy), fun p hp => of_decide_eq_true (List.all_eq_true.mp h3 p hp), fun y hy e => ?_, fun y hy e => ?_⟩
  · have := List.all_eq_true.mp h4 y hy
    simp only [e, decide_true, Bool.not_true, Bool.false_or, Bool.or_eq_true, decide_eq_true_eq] at this
    exact this
  · have z := List.all_eq_true.mp h5 y hy
    have hz : (decide (y.2 = .local) || decide (y.2 = .cell)) = true := by
      rcases e with e | e <;> rw [e] <;> rfl
    rw [hz] at z
    simp only [Bool.not_true, Bool.false_or, Bool.or_eq_true, Bool.not_eq_true'] at z
    rcases z with z | z
    · exact .inl (by simpa using z)
    · exact .inr (by simpa using z)
def ndB (N : List Str) : Bool := decide N.Nodup

/-! ### a, b = x, y -/
section
variable {X : Cx} {W : WX} {a b c : Expr} {pos : Pos} {x y z : Str} {px py pz pt : Pos} {kt k2 : Nat} {pt2 : Pos} {fs : En → Mem → R (List Val)}
theorem vs_par3 (i j l : Nat) (ha : VA X W [a, b, c] fs) (hc : X.calm = true) (hN : X.N.Nodup) (hi : X.N[i]? = some x := by rfl) (hj : X.N[j]? = some y := by rfl) (hl : X.N[l]? = some z := by rfl) (hij : i ≠ j := by decide) (hil : i ≠ l := by decide) (hjl : j ≠ l := by decide)
    (hx : X.env.scope.names.lookup x = some .local := by rfl) (hy : X.env.scope.names.lookup y = some .local := by rfl) (hz : X.env.scope.names.lookup z = some .local := by rfl)
    (hw : swappedStores [.Tuple [.Name x px, .Name y py, .Name z pz] kt pt] (.Tuple [a, b, c] k2 pt2) X.env = pure (some [x, y, z]) := by rfl)
    (hs : swapsWithSole [.Tuple [.Name x px, .Name y py, .Name z pz] kt pt] (.Tuple [a, b, c] k2 pt2) pos.line X.env = pure false := by rfl) :
    VS X W (.Assign [.Tuple [.Name x px, .Name y py, .Name z pz] kt pt] (.Tuple [a, b, c] k2 pt2) pos) (sPar3 i j l fs) := ps_imp (ps_par3 hc hN hi hj hl hij hil hjl hx hy hz ha hw hs) fun D σ H ⟨ρ, env, M, es, h⟩ => by
  refine ⟨ρ, env, M, es, (Konts.toS es h).mono (fun u H1 ⟨ρ1, M1, v, s1, es1, r, q⟩ => ?_) fun _ _ _ z => z⟩
  split at q
  · rename_i v w z
    obtain ⟨u1, r1, rfl, h1, u2, r2, rfl, h2, u3, r3, rfl, h3, e3⟩ := r
    cases e3
    exact ⟨u1, u2, u3, rfl, q ρ1 _ H1 .refl (((es1.set h1).set h2).set h3)⟩
  · exact q.elim
/-- .. where a name is held by a cell: the pair is laid, then taken apart -/
theorem vs_parC (i j : Nat) (ha : VA X W [a, b] fs) (hc : X.calm = true) (hN : X.N.Nodup) (hi : X.N[i]? = some x := by rfl) (hj : X.N[j]? = some y := by rfl)
    (hx : Loc X.env.scope x := by first | exact .inl rfl | exact .inr rfl) (hy : Loc X.env.scope y := by first | exact .inl rfl | exact .inr rfl) (hf : X.fn x = true ∨ X.env.scope.names.lookup x = some .local := by first | exact .inl rfl | exact .inr rfl) (hf2 : X.fn y = true ∨ X.env.scope.names.lookup y = some .local := by first | exact .inl rfl | exact .inr rfl)
    (hw : swappedStores [.Tuple [.Name x px, .Name y py] kt pt] (.Tuple [a, b] k2 pt2) X.env = pure none := by rfl)
    (hs : swapsWithSole [.Tuple [.Name x px, .Name y py] kt pt] (.Tuple [a, b] k2 pt2) pos.line X.env = pure false := by rfl) :
    VS X W (.Assign [.Tuple [.Name x px, .Name y py] kt pt] (.Tuple [a, b] k2 pt2) pos) (sPar i j fs) :=
  ps_imp (ps_asg (pe_tup ha) (pg_tup hc (pgs_cons (pg_name hN hi hx hf) (pgs_cons (pg_name hN hj hy hf2) pgs_nil)) rfl rfl) hs hw) fun D σ H ⟨ρ, env, M, es, h⟩ => by
    refine ⟨ρ, env, M, es, (Konts.toS es h).mono (fun u H1 ⟨ρ1, M1, v, s1, es1, r, q⟩ => ?_) fun _ _ _ z => z⟩
    split at q
    · rename_i v w
      obtain ⟨u1, r1, rfl, h1, u2, r2, rfl, h2, e2⟩ := r
      cases e2
      refine ⟨by rw [sizeLine_eq]; show _ + 1 ≤ 16777216; simp, fun p hp => ?_⟩
      obtain ⟨s2, g2, n2⟩ := es1.gs.alloc hp (.tup [u1, u2])
      have es2 := es1.step s2 g2
      refine ⟨p, [u1, u2], rfl, .inl (.inl upd_same), rfl, u1, [u2], rfl, u2, [], rfl, rfl, ?_⟩
      exact q ρ1 _ _ s2 ((es2.set (h1.step s2)).set (h2.step s2))
    · exact q.elim
end
end Vl
set_option Elab.async false
set_option linter.all false
set_option maxRecDepth 100000
set_option maxHeartbeats 1000000
/-! Vl14: the head's facts: defs, classes, own exceptions with their __init__. -/
namespace Vl
open PySem PySem.Spec PyProof.Rows L2 Vx He

/-! ### an exception's __init__ -/
abbrev FnY : Type := Option (Str × Str × Arguments × FuncBody × Scope × Addr × List Str × Addr)
def fnY (K : PySem.W.Frag) (p : Str × Option Str) : FnY := match K.lookup (fAd K p) with
  | some ⟨_, _, .func fd, _⟩ => some (fd.name, fd.qualname, fd.params, fd.body, fd.scope, fd.globals, fd.closure.map (·.1), fd.builtins)
  | _ => none
structure XDef where
  cn : Str
  qual : Str
  params : Arguments
  body : List Stmt
  scope : Scope
def XDef.at_ (d : XDef) : Str × Option Str := (d.cn, some "__init__")
def XDef.val (d : XDef) : FnY := some ("__init__", d.qual, d.params, .stmts d.body, d.scope, mainGlobals, ["__class__"], builtinsNs)
def clsOfCell (K : PySem.W.Frag) (fd : FuncData) (C : Addr) : Bool := match fd.closure with
  | [(_, cc)] => (match K.lookup cc with
    | some ⟨_, _, .cell (some (.ref C')), _⟩ => decide (C' = C)
    | _ => false)
  | _ => false
def fileOf (K : PySem.W.Frag) (fd : FuncData) (file : Str) : Bool := match fd.code with
  | .ref cda => (match K.lookup cda with
    | some ⟨_, _, .fields vs, _⟩ => (match (vs[2]? : Option Value) with
      | some (Value.str f _) => decide (f = file)
      | _ => false)
    | _ => false)
  | _ => false
def XDef.ok (K : PySem.W.Frag) (file : Str) (d : XDef) : Bool := xclsB K (ga K d.cn) && (decide (PySem.W.findIn K (.ref (ga K d.cn)) "__init__" = some (some (.ref (fAd K d.at_)))) && (decide (PySem.W.typeIn K (.ref (fAd K d.at_)) = some (.type "function")) &&
  (match K.lookup (fAd K d.at_) with
  | some ⟨_, _, .func fd, _⟩ => decide (fd.defaults = .none) && (PySem.W.codeIn K fd.code d.qual && (clsOfCell K fd (ga K d.cn) && fileOf K fd file))
  | _ => false)))
theorem XDef.ini {K : PySem.W.Frag} {file : Str} {d : XDef} (e : fnY K d.at_ = d.val) (c : d.ok K file = true) : XCls K (ga K d.cn) ∧ XIni K file (ga K d.cn) (fAd K d.at_) "__init__" d.qual d.params d.body d.scope := by
  obtain ⟨c1, c⟩ := ba2 c
  obtain ⟨c2, c⟩ := ba2 c
  obtain ⟨c3, c⟩ := ba2 c
  refine ⟨xclsB_ok c1, ?_, of_decide_eq_true c2, of_decide_eq_true c3⟩
  unfold fnY at e
  cases q : K.lookup (fAd K d.at_) with
  | none => rw [q] at c; cases c
  | some o =>
    obtain ⟨oc, od, dt, osl⟩ := o
    rw [q] at c e
    cases dt with
    | func fd =>
      obtain ⟨n1, n2, n3, n4, n5, n6, n7, n8, n9, n10, n11, n12, n13, n14, n15⟩ := fd
      have e2 : (some (n1, n2, n3, n4, n5, n6, n7.map (·.1), n15) : FnY) = (some (("__init__" : Str), d.qual, d.params, FuncBody.stmts d.body, d.scope, mainGlobals, [("__class__" : Str)], builtinsNs) : FnY) := e
      simp only [Option.some.injEq, Prod.mk.injEq] at e2
      obtain ⟨h1, h2, h3, h4, h5, h6, h7, h8⟩ := e2
      subst h1 h2 h3 h4 h5 h6 h8
      dsimp only at c
      obtain ⟨k1, c⟩ := ba2 c
      obtain ⟨k2, c⟩ := ba2 c
      obtain ⟨k3, k4⟩ := ba2 c
      have k1 := of_decide_eq_true k1
      subst k1
      have hcl : ∃ cc, n7 = [(("__class__" : Str), cc)] := by
        cases n7 with
        | nil => simp at h7
        | cons p r =>
          obtain ⟨a, b⟩ := p
          cases r with
          | nil => simp at h7; subst h7; exact ⟨b, rfl⟩
          | cons _ _ => simp at h7
      obtain ⟨cc, rfl⟩ := hcl
      obtain ⟨cda, e13⟩ : ∃ cda, n13 = .ref cda := by
        cases n13 with
        | ref cda => exact ⟨cda, rfl⟩
        | _ => cases k2
      subst e13
      unfold clsOfCell at k3
      dsimp only at k3
      unfold fileOf at k4
      dsimp only at k4
      split at k3
      · rename_i ccl ccd C' ccs hcc
        have k3 := of_decide_eq_true k3
        subst k3
        split at k4
        · rename_i c1' c2' vs c4' hcda
          split at k4
          · rename_i f tf hvs
            have k4 := of_decide_eq_true k4
            subst k4
            exact ⟨oc, od, osl, n9, n10, n11, n12, cda, n14, cc, vs, tf, c1', ccl, c2', ccd, c4', ccs, rfl, k2, hcda, hvs, hcc⟩
          · cases k4
        · cases k4
      · cases k3
    | _ => cases c
/-! ### the Hook -/
def asV (g : Addr → Option Obj) (n : Nat) : List Addr := cStatics :: asD g n
structure Hd where
  fa : List Fa
  fn : List DefD
  xs : List XDef
  ex : PySem.W.Frag → Bool
  file : Str
abbrev AlV : Type := AlD × (List FnY × Bool)
def obsV (d : Hd) (K : PySem.W.Frag) : AlV := (obsD d.fa d.fn K, (d.xs.map fun x => fnY K x.at_, d.ex K && d.xs.all fun x => x.ok K d.file))
def valV (d : Hd) : AlV := (valD d.fn, (d.xs.map XDef.val, true))
def SaysV (d : Hd) (K : PySem.W.Frag) : Prop := obsV d K = valV d
def obsVG (n : Nat) (d : Hd) (g : Addr → Option Obj) : AlV := obsV d (frG g (asV g n))
def hookV (n : Nat) (d : Hd) : PySem.W.Hook where
  α := AlV
  obs := fun s => obsVG n d s.heap.get?
  val := fun _ => valV d
  says := fun _ h => ∃ K : PySem.W.Frag, K.In h ∧ SaysV d K
  of := fun _ _ e => ⟨_, frG_in, e⟩
  keeps := fun _ _ _ ⟨K, hK, c⟩ k => ⟨K, PySem.W.Frag.In.keeps hK k, c⟩
theorem obsVG_eq {n : Nat} {d : Hd} {g : Addr → Option Obj} {s : Shared} (h : ∀ a, g a = s.heap.get? a) : obsVG n d g = (hookV n d).obs s := by
  have e : g = s.heap.get? := funext h
  rw [e] <;> rfl
section
variable {hd : Hd} {K : PySem.W.Frag}
theorem SaysV.d (c : SaysV hd K) : SaysD hd.fa hd.fn K := congrArg (fun z : AlV => z.1) c
theorem SaysV.ex (c : SaysV hd K) : hd.ex K = true := (ba2 (show (hd.ex K && hd.xs.all fun x => x.ok K hd.file) = true from congrArg (fun z : AlV => z.2.2) c)).1
theorem SaysV.x (c : SaysV hd K) (i : Nat) {x : XDef} (h : hd.xs[i]? = some x := by rfl) : XCls K (ga K x.cn) ∧ XIni K hd.file (ga K x.cn) (fAd K x.at_) "__init__" x.qual x.params x.body x.scope := by
  have c1 := (ba2 (show (hd.ex K && hd.xs.all fun x => x.ok K hd.file) = true from congrArg (fun z : AlV => z.2.2) c)).2
  have e : hd.xs.map (fun x => fnY K x.at_) = hd.xs.map XDef.val := congrArg (fun z : AlV => z.2.1) c
  have e2 : (hd.xs.map fun x => fnY K x.at_)[i]? = (hd.xs.map XDef.val)[i]? := by rw [e]
  rw [List.getElem?_map, List.getElem?_map, h] at e2
  exact XDef.ini (Option.some.inj e2) (List.all_eq_true.mp c1 x (List.mem_of_getElem? h))
end
/-! ### classes, methods, from the facts -/
section
variable {P : Program} {w : World} {K : PySem.W.Frag} {mg : Str → Option Value} {base : Heap}
theorem fcalD {x qual : Str} {params : Arguments} {body : List Stmt} {scope : Scope} {f : Addr} {kws : List (Str × V)} {N ps : List Str} {k : Nat} {F : SF} (D : ∃ fd, FunD K x qual params body scope [] kws f fd) (hm : mg x = some (.ref f)) (S : FnScope N ps scope)
    (bn : ∀ (kV doc pm : Value) (an : Option Addr) (cdv ct : Value) (us : List Value), us.length = ps.length → bindArgs (PySem.W.fnOf x qual params body scope .none kV doc pm an cdv ct) ⟨us, []⟩ = pure (ps.zip us)) (hb : BodyOk P w K mg base N qual scope body k F) :
    FCal P w K mg base (k + 1) x (phi N.length ps.length F) := by
  obtain ⟨fd, D⟩ := D
  exact ⟨f, fd, ps, fnV_D D S hb, hm, D.kp, D.bindsN bn⟩
theorem mcalD {cn x qual : Str} {params : Arguments} {body : List Stmt} {scope : Scope} {f C : Addr} {kws : List (Str × V)} {N ps : List Str} {k : Nat} {F : SF} (D : ∃ fd, FunD K x qual params body scope [] kws f fd) (hm : mg cn = some (.ref C)) (hc : Cls K C) (ht : Meth K C x f) (S : FnScope N ps scope)
    (bn : ∀ (kV doc pm : Value) (an : Option Addr) (cdv ct : Value) (us : List Value), us.length = ps.length → bindArgs (PySem.W.fnOf x qual params body scope .none kV doc pm an cdv ct) ⟨us, []⟩ = pure (ps.zip us)) (hb : BodyOk P w K mg base N qual scope body k F) :
    MCal P w K mg base (k + 1) cn x (phi N.length ps.length F) := by
  obtain ⟨fd, D⟩ := D
  exact ⟨C, f, fd, ps, fnV_D D S hb, hm, hc, ht, D.bindsN bn⟩
theorem ncalD {cn x qual : Str} {params : Arguments} {body : List Stmt} {scope : Scope} {f C : Addr} {kws : List (Str × V)} {N ps : List Str} {k : Nat} {F : SF} (D : ∃ fd, FunD K x qual params body scope [] kws f fd) (hm : mg cn = some (.ref C)) (ht : Mk K C f) (S : FnScope N ps scope)
    (bn : ∀ (kV doc pm : Value) (an : Option Addr) (cdv ct : Value) (us : List Value), us.length = ps.length → bindArgs (PySem.W.fnOf x qual params body scope .none kV doc pm an cdv ct) ⟨us, []⟩ = pure (ps.zip us)) (hb : BodyOk P w K mg base N qual scope body k F) :
    NCal P w K mg base (k + 1) cn (phi N.length ps.length F) := by
  obtain ⟨fd, D⟩ := D
  exact ⟨C, f, fd, ps, fnV_D D S hb, hm, ht, D.bindsN bn⟩
/-- what isinstance asks of a class -/
def isClsB (K : PySem.W.Frag) (C : Addr) : Bool := decide (PySem.W.findIn K (.ref C) "__class__" = some (some (.builtin "object.__class__"))) && (decide (PySem.W.specialIn K (.builtin "object.__class__") "__get__" = some (some (.builtin "getset_descriptor.__get__"))) &&
  (decide (PySem.W.takesIn K (.builtin "object.__class__") = some true) && decide (PySem.W.mroIn K C (.type "object") = some true)))
theorem isClsB_ok {C : Addr} (hc : Cls K C) (h : isClsB K C = true) : IsCls K C := by
  obtain ⟨h1, h⟩ := ba2 h
  obtain ⟨h2, h⟩ := ba2 h
  obtain ⟨h3, h4⟩ := ba2 h
  exact ⟨hc, of_decide_eq_true h1, of_decide_eq_true h2, of_decide_eq_true h3, of_decide_eq_true h4⟩
def eqB (K : PySem.W.Frag) (C f : Addr) : Bool := decide (PySem.W.findIn K (.ref C) "__eq__" = some (some (.ref f))) && (PySem.W.isFn K (.ref f) && (decide (PySem.W.findIn K (.ref C) "__ne__" = some (some (.builtin "object.__ne__"))) && tys.all fun n => decide (PySem.W.subIn K (.type n) (.ref C) = some false)))
theorem eqcalD {cn x qual : Str} {params : Arguments} {body : List Stmt} {scope : Scope} {f C : Addr} {kws : List (Str × V)} {N ps : List Str} {k : Nat} {F : SF} (D : ∃ fd, FunD K x qual params body scope [] kws f fd) (hm : mg cn = some (.ref C)) (hc : IsCls K C) (he : eqB K C f = true) (S : FnScope N ps scope)
    (bn : ∀ (kV doc pm : Value) (an : Option Addr) (cdv ct : Value) (us : List Value), us.length = ps.length → bindArgs (PySem.W.fnOf x qual params body scope .none kV doc pm an cdv ct) ⟨us, []⟩ = pure (ps.zip us)) (hb : BodyOk P w K mg base N qual scope body k F) :
    EqCal P w K mg base (k + 1) cn (phi N.length ps.length F) := by
  obtain ⟨fd, D⟩ := D
  obtain ⟨h1, he⟩ := ba2 he
  obtain ⟨h2, he⟩ := ba2 he
  obtain ⟨h3, h4⟩ := ba2 he
  exact ⟨C, f, fd, ps, fnV_D D S hb, hm, hc, of_decide_eq_true h1, h2, of_decide_eq_true h3, D.bindsN bn, fun n hn => of_decide_eq_true (List.all_eq_true.mp h4 n hn)⟩
/-- isinstance(.., C): what is asked of values of built-in types, of C's instances -/
def askB (K : PySem.W.Frag) (C : Addr) : Bool := tys.all fun n => decide (PySem.W.kitOne K (.type n) (.ref C) = some false)
theorem askB_ok {C : Addr} (h : askB K C = true) : ∀ n ∈ tys, PySem.W.kitOne K (.type n) (.ref C) = some false := fun n hn => of_decide_eq_true (List.all_eq_true.mp h n hn)
theorem ask_self {cn : Str} {C : Addr} (hm : mg cn = some (.ref C)) (hc : IsCls K C) : AskC K mg cn (.ref C) true := ⟨C, hm, hc, by unfold PySem.W.kitOne; simp⟩
/-- an own exception's __init__ of one field -/
theorem ecal1_of {cn p qual : Str} {params : Arguments} {body : List Stmt} {scope : Scope} {C fI : Addr} {file : Str} {a0 : Arg} {q0 q1 q2 q3 q4 q5 q6 q7 q8 q9 : Pos} (hm : mg cn = some (.ref C)) (T : XCls K C) (F : XIni K file C fI "__init__" qual params body scope) (hsup : mg "super" = none)
    (hb : body = [.Expr (.Call (.Attribute (.Call (.Name "super" q0) [] [] q1) "__init__" q2) [.Name p q3] [] q4) q5, .Assign [.Attribute (.Name "self" q6) p q7] (.Name p q8) q9])
    (hfile : ((P.main.file : Str) == file) = true) (htop : (P.main.scope.names.lookup ("super" : Str)).isSome = false) (hpar : (params.posonlyargs ++ params.args).head? = some a0) (ha0 : a0.arg = "self") (hself : (p == ("self" : Str)) = false) (hdb : (p == ("__debug__" : Str)) = false)
    (hbind : ∀ (kV doc pm : Value) (an : Option Addr) (cdv ct : Value) (cc : Addr) (body : List Stmt) (e : Addr) (u : Value), bindArgs (PySem.W.ksFn "__init__" qual params body scope .none kV doc pm an cdv ct cc) ⟨[.ref e, u], []⟩ = pure (xb e p u))
    (hbind2 : ∀ (kV doc pm : Value) (an : Option Addr) (cdv ct : Value) (cc : Addr) (body : List Stmt) (e : Addr) (u : Value), bindArgs (PySem.W.ksFn "__init__" qual params body scope .none kV doc pm an cdv ct cc) ⟨[.ref e], [(p, u)]⟩ = pure (xb e p u))
    (hks : scope.names.lookup ("super" : Str) = some .globalImplicit) (hkc : scope.names.lookup ("__class__" : Str) = some .free) (hka : scope.names.lookup ("self" : Str) = some .local) (hkp : scope.names.lookup p = some .local) (hk : scope.kind = .function)
    (hcell : ∀ x ∈ scope.names, x.2 ≠ .cell) (hco : scope.isCoroutine = false) (hgen : scope.isGenerator = false) (hno : PySem.W.findIn K (.ref C) p = some none) (hev : ∀ env : Env, ∃ pl, eval (.Call (.Attribute (.Call (.Name "super" q0) [] [] q1) "__init__" q2) [.Name p q3] [] q4) env = (do
      let ov ← attributeBase (.Call (.Name "super" q0) [] [] q1) "__init__" env (eval (.Call (.Name "super" q0) [] [] q1) env)
      standAt q2.atName
      let fx ← holding [ov] (getMethod ov "__init__" pl)
      callWith q4 fx.1 fx.2 (backTo q4 (starEach [.Name p q3] env)) [])) : ECal1 P w K mg cn p := by
  subst hb
  refine ⟨C, fI, hm, T, F.ini, F.fn, fun A s e t0 u ar R B ha he heK k => ?_⟩
  exact run_init1 T B.dp B.kin B.glob hsup B.blt B.lim F he hfile htop (by decide +kernel) hpar ha0 heK hself hdb (fun kV doc pm an cdv ct cc body => by
    rcases ha with rfl | rfl
    · exact hbind kV doc pm an cdv ct cc body e u
    · exact hbind2 kV doc pm an cdv ct cc body e u) hks hkc hka hkp hk hcell hco hgen hno hev k
/-- an own exception's __init__ of two fields -/
theorem ecal2_of {cn p p' qual : Str} {params : Arguments} {body : List Stmt} {scope : Scope} {C fI : Addr} {file : Str} {a0 : Arg} {q0 q1 q2 q3 q4 q5 q6 q7 q8 q9 r3 r6 r7 r8 r9 : Pos} (hm : mg cn = some (.ref C)) (T : XCls K C) (F : XIni K file C fI "__init__" qual params body scope) (hsup : mg "super" = none)
    (hb : body = [.Expr (.Call (.Attribute (.Call (.Name "super" q0) [] [] q1) "__init__" q2) [.Name p q3, .Name p' r3] [] q4) q5, .Assign [.Attribute (.Name "self" q6) p q7] (.Name p q8) q9, .Assign [.Attribute (.Name "self" r6) p' r7] (.Name p' r8) r9])
    (hfile : ((P.main.file : Str) == file) = true) (htop : (P.main.scope.names.lookup ("super" : Str)).isSome = false) (hpar : (params.posonlyargs ++ params.args).head? = some a0) (ha0 : a0.arg = "self") (hself : (p == ("self" : Str)) = false) (hdb : (p == ("__debug__" : Str)) = false) (hself2 : (p' == ("self" : Str)) = false) (hdb2 : (p' == ("__debug__" : Str)) = false) (hpp : (p == p') = false)
    (hbind : ∀ (kV doc pm : Value) (an : Option Addr) (cdv ct : Value) (cc : Addr) (body : List Stmt) (e : Addr) (u u2 : Value), bindArgs (PySem.W.ksFn "__init__" qual params body scope .none kV doc pm an cdv ct cc) ⟨[.ref e, u, u2], []⟩ = pure (xb2 e p u p' u2))
    (hbind2 : ∀ (kV doc pm : Value) (an : Option Addr) (cdv ct : Value) (cc : Addr) (body : List Stmt) (e : Addr) (u u2 : Value), bindArgs (PySem.W.ksFn "__init__" qual params body scope .none kV doc pm an cdv ct cc) ⟨[.ref e], [(p, u), (p', u2)]⟩ = pure (xb2 e p u p' u2))
    (hbind3 : ∀ (kV doc pm : Value) (an : Option Addr) (cdv ct : Value) (cc : Addr) (body : List Stmt) (e : Addr) (u u2 : Value), bindArgs (PySem.W.ksFn "__init__" qual params body scope .none kV doc pm an cdv ct cc) ⟨[.ref e], [(p', u2), (p, u)]⟩ = pure (xb2 e p u p' u2))
    (hks : scope.names.lookup ("super" : Str) = some .globalImplicit) (hkc : scope.names.lookup ("__class__" : Str) = some .free) (hka : scope.names.lookup ("self" : Str) = some .local) (hkp : scope.names.lookup p = some .local) (hkp2 : scope.names.lookup p' = some .local) (hk : scope.kind = .function)
    (hcell : ∀ x ∈ scope.names, x.2 ≠ .cell) (hco : scope.isCoroutine = false) (hgen : scope.isGenerator = false) (hno : PySem.W.findIn K (.ref C) p = some none) (hno2 : PySem.W.findIn K (.ref C) p' = some none) (hev : ∀ env : Env, ∃ pl, eval (.Call (.Attribute (.Call (.Name "super" q0) [] [] q1) "__init__" q2) [.Name p q3, .Name p' r3] [] q4) env = (do
      let ov ← attributeBase (.Call (.Name "super" q0) [] [] q1) "__init__" env (eval (.Call (.Name "super" q0) [] [] q1) env)
      standAt q2.atName
      let fx ← holding [ov] (getMethod ov "__init__" pl)
      callWith q4 fx.1 fx.2 (backTo q4 (starEach [.Name p q3, .Name p' r3] env)) [])) : ECal2 P w K mg cn p p' := by
  subst hb
  refine ⟨by simpa using hpp, C, fI, hm, T, F.ini, F.fn, fun A s e t0 u u2 ar R B ha he heK k => ?_⟩
  exact run_init2 T B.dp B.kin B.glob hsup B.blt B.lim F he hfile htop (by decide +kernel) hpar ha0 heK hself hdb hself2 hdb2 hpp (fun kV doc pm an cdv ct cc body => by
    rcases ha with rfl | rfl | rfl
    · exact hbind kV doc pm an cdv ct cc body e u u2
    · exact hbind2 kV doc pm an cdv ct cc body e u u2
    · exact hbind3 kV doc pm an cdv ct cc body e u u2) hks hkc hka hkp hkp2 hk hcell hco hgen hno hno2 hev k
end
end Vl
set_option Elab.async false
set_option linter.all false
set_option maxRecDepth 100000
set_option maxHeartbeats 1000000
/-! Vl15: levels; a def of which nothing is promised. -/
namespace Vl
open PySem PySem.Spec PyProof.Rows L2 Vx He
theorem Rm.mark {k : Nat} {A : Around} {v : Option Value} (r : Room k A) : Rm k (A.mark v) := ⟨r.un⟩
section
variable {P : Program} {w : World} {K : PySem.W.Frag} {mg : Str → Option Value} {base : Heap} {j k : Nat} {x : Str} {φ : List Val → Mem → R Val}
theorem FCal.mono (h : FCal P w K mg base j x φ) (le : j ≤ k) : FCal P w K mg base k x φ := by
  obtain ⟨f, fd, ps, F, r⟩ := h.ex
  exact ⟨f, fd, ps, ⟨F.len, fun A outer s H args us vs Q E hr => F.run A outer s H args us vs Q E (hr.mono le)⟩, r⟩
theorem fcal_bad {qual : Str} {params : Arguments} {body : List Stmt} {scope : Scope} {f : Addr} {kws : List (Str × V)} {N ps : List Str} (D : ∃ fd, FunD K x qual params body scope [] kws f fd) (hm : mg x = some (.ref f)) (S : FnScope N ps scope)
    (bn : ∀ (kV doc pm : Value) (an : Option Addr) (cdv ct : Value) (us : List Value), us.length = ps.length → bindArgs (PySem.W.fnOf x qual params body scope .none kV doc pm an cdv ct) ⟨us, []⟩ = pure (ps.zip us)) :
    FCal P w K mg base k x (fun _ _ => .bad) := by
  obtain ⟨fd, D⟩ := D
  exact ⟨f, fd, ps, ⟨fun vs H Q E ⟨ρ, M, ws, g, r, q⟩ => q.elim, fun A outer s H args us vs Q E hr e0 b r ⟨ρ, M, ws, g, r2, q⟩ => q.elim⟩, hm, D.kp, D.bindsN bn⟩
end
end Vl
set_option Elab.async false
set_option linter.all false
set_option maxRecDepth 100000
set_option maxHeartbeats 1000000
/-! Vl16: the end of a law. -/
namespace Vl
open PySem PySem.Spec PyProof.Rows L2 Vx He
theorem law_start {K : PySem.W.Frag} {mg : Str → Option Value} {H : Hp} {a : Addr} {ns : List Int} {φ : List Val → Mem → R Val} {M : Mem} (hs : SqL K H a (ns.map V.int)) (h : φ [.d (.scr ns)] [] = .ok (.d (.bl true)) M) : spF ⟨mg, K, none⟩ φ [.ref a] H (fun v _ => v = .bl true) fun _ _ _ => False := by
  refine ⟨⟨fun _ => 0, fun _ => False⟩, [], [.d (.scr ns)], ⟨fun k o e => (by simp at e), fun j k l _ _ => ?_, fun a z => z.elim, fun k l z => z.elim⟩, ⟨_, _, rfl, ⟨a, rfl, ?_⟩, rfl⟩, ?_⟩
  · obtain ⟨o, e, _⟩ := l
    simp at e
  · rcases hs with hs | hs
    · refine .inl ⟨hs, fun z => ?_⟩
      rcases z with z | ⟨k, ⟨o, e, _⟩, _⟩
      · exact z
      · simp at e
    · exact .inr fun H' => .inr hs
  · rw [h]
    exact fun ρ' u H' s g r => r
theorem end_walk {l : PySem.W.OpenLaw} {n k : Nat} {q : Program} {loose : List Str} {XP : (Str → Option Value) → Heap → Prop} {YP : World → Heap → Prop} {d : DefRec} {x : Str} (hn : l.most = some n) (hn2 : n ≤ sizeLine) (hdf : d.params.defaults = []) (hr : Room k callerA)
    (F : ∀ (w : World) (mg : Str → Option Value) (fa : Addr) (h : Heap), YP w h → h.Ns mainGlobals mg → mg d.name = some (.ref fa) → ∃ (K : PySem.W.Frag) (fd : FuncData) (φ : List Val → Mem → R Val), K.In h ∧ (∀ (s : Shared) (u : Value), BindsTo s fd ⟨[u], []⟩ [(x, u)]) ∧
      (∀ ns : List Int, ns.length ≤ n → ∃ M, φ [.d (.scr ns)] [] = .ok (.d (.bl true)) M) ∧ ∀ base : Heap, K.In base → base.Ns mainGlobals mg → FnV l.prog w K mg base k fa fd [x] φ) :
    PySem.W.WalkO q loose XP YP l.row.toRowW d [] (fun f vs => PySem.call f vs) := by
  refine Att.attach_call hn hdf fun w s₀ s₁ mg mb fa o pm cd doc a vs ns G Y ho hd hcd hmg hobj hints hlen hg => ?_
  obtain ⟨K, fd, φ, KX, hb, hφ, hF⟩ := F w mg fa _ Y G.T.g hmg
  obtain ⟨M, e⟩ := hφ ns hlen
  exact law_call (sp := spF ⟨mg, K, none⟩ φ) (CX := L2N.CX l.prog w) KX G.T.g G.T.b G.T.builtins G.T.nolimit hg hobj hints (Nat.le_trans hlen hn2) hr hF hb (fun H hO hS => law_start hS e) fun H e s' c => by
    obtain ⟨a, B, H', cls, d, rfl, fl, hk, un, na, os, ag, w⟩ := c
    exact w
end Vl
set_option Elab.async false
set_option linter.all false
set_option maxRecDepth 100000
set_option maxHeartbeats 1000000
/-! Vs0: how the combinators compute (simp). -/
namespace Vl
open PySem PySem.Spec PyProof.Rows L2 Vx
section
variable (e : En) (M : Mem) (f g h : EF) (p q : BF) (F G : SF) (v w : Val)
@[simp] theorem x_fC (d : D) : fC d e M = .ok (.d d) M := rfl
@[simp] theorem x_fNil : fNil e M = .ok [] M := rfl
@[simp] theorem x_fCons (fs : En → Mem → R (List Val)) : fCons f fs e M = rbind (f e M) fun v M1 => rbind (fs e M1) fun vs M2 => .ok (v :: vs) M2 := rfl
@[simp] theorem x_fTup (fs : En → Mem → R (List Val)) : fTup fs e M = rbind (fs e M) mkTup := rfl
@[simp] theorem x_fLst (fs : En → Mem → R (List Val)) : fLst fs e M = rbind (fs e M) mkLst := rfl
@[simp] theorem x_fObj (fs : En → Mem → R (List Val)) : fObj fs e M = rbind (fs e M) mkObj := rfl
@[simp] theorem x_ds0 : dsOf [] = some [] := rfl
@[simp] theorem x_ds1 (x : D) (r : List Val) : dsOf (.d x :: r) = (dsOf r).map (x :: ·) := rfl
@[simp] theorem x_mkTup (vs : List Val) : mkTup vs M = match dsOf vs with
  | some ds => if ds.length ≤ big then .ok (.d (.tup ds)) M else .bad
  | none => .bad := rfl
@[simp] theorem x_mkLst (vs : List Val) : mkLst vs M = match dsOf vs with
  | some ds => if ds.length ≤ big then .ok (.d (.lst ds)) M else .bad
  | none => .bad := rfl
@[simp] theorem x_mkObj (vs : List Val) : mkObj vs M = match dsOf vs with
  | some ds => if ds.length ≤ big then .ok (.obj M.length) (M ++ [.lst ds]) else .bad
  | none => .bad := rfl
@[simp] theorem x_fOp (op : Val → Val → Mem → R Val) : fOp op f g e M = rbind (f e M) fun v M1 => rbind (g e M1) fun w M2 => op v w M2 := rfl
@[simp] theorem x_add (i j : Int) : opAdd (.d (.int i)) (.d (.int j)) M = .ok (.d (.int (i + j))) M := rfl
@[simp] theorem x_opI (C : Int → Int → Prop) [∀ i j, Decidable (C i j)] (k : Int → Int → Int) (i j : Int) : opI C k (.d (.int i)) (.d (.int j)) M = if C i j then .ok (.d (.int (k i j))) M else .bad := rfl
@[simp] theorem x_mul (i j : Int) : opMul (.d (.int i)) (.d (.int j)) M = if CMul i j then .ok (.d (.int (i * j))) M else .bad := rfl
@[simp] theorem x_opB (k : Int → Int → Bool) (i j : Int) : opB k (.d (.int i)) (.d (.int j)) M = .ok (.d (.bl (k i j))) M := rfl
@[simp] theorem x_lt (i j : Int) : opLt (.d (.int i)) (.d (.int j)) M = .ok (.d (.bl (decide (i < j)))) M := rfl
@[simp] theorem x_fNeg : fNeg f e M = rbind (f e M) fun v M1 => match v with
  | .d (.int i) => .ok (.d (.int (-i))) M1
  | _ => .bad := rfl
@[simp] theorem x_asB : asB f e M = rbind (f e M) fun v M1 => match v with
  | .d (.bl b) => .ok b M1
  | _ => .bad := rfl
@[simp] theorem x_asT : asT f e M = rbind (f e M) fun v M1 => match tru M1 v with
  | some b => .ok b M1
  | none => .bad := rfl
@[simp] theorem x_tru_bl (b : Bool) : tru M (.d (.bl b)) = some b := rfl
@[simp] theorem x_tru_int (i : Int) : tru M (.d (.int i)) = some (i != 0) := rfl
@[simp] theorem x_tru_non : tru M (.d .non) = some false := rfl
@[simp] theorem x_bAnd : bAnd p q e M = rbind (p e M) fun b M1 => if b = true then q e M1 else .ok false M1 := rfl
@[simp] theorem x_bOr : bOr p q e M = rbind (p e M) fun b M1 => if b = true then .ok true M1 else q e M1 := rfl
@[simp] theorem x_bNot : bNot p e M = rbind (p e M) fun b M1 => .ok (!b) M1 := rfl
@[simp] theorem x_fAnd : fAnd f g e M = rbind (f e M) fun v M1 => match tru M1 v with
  | some true => g e M1
  | some false => .ok v M1
  | none => .bad := rfl
@[simp] theorem x_fOr : fOr f g e M = rbind (f e M) fun v M1 => match tru M1 v with
  | some true => .ok v M1
  | some false => g e M1
  | none => .bad := rfl
@[simp] theorem x_fNot : fNot f e M = rbind (f e M) fun v M1 => match tru M1 v with
  | some b => .ok (.d (.bl (!b))) M1
  | none => .bad := rfl
@[simp] theorem x_fIf : fIf p f g e M = rbind (p e M) fun b M1 => if b = true then f e M1 else g e M1 := rfl
@[simp] theorem x_fIsN (neg : Bool) : fIsN neg f e M = rbind (f e M) fun v M1 => match isN v with
  | some b => .ok (.d (.bl (if neg then !b else b))) M1
  | none => .bad := rfl
@[simp] theorem x_opIsB (neg b c : Bool) : opIsB neg (.d (.bl b)) (.d (.bl c)) M = .ok (.d (.bl (if neg then !decide (b = c) else decide (b = c)))) M := rfl
@[simp] theorem x_chain (op op' : Val → Val → Mem → R Val) : fChain op op' f g h e M = rbind (f e M) fun v M1 => rbind (g e M1) fun w M2 => rbind (op v w M2) fun z M3 => match z with
  | .d (.bl true) => rbind (h e M3) fun y M4 => op' w y M4
  | .d (.bl false) => .ok (.d (.bl false)) M3
  | _ => .bad := rfl
@[simp] theorem x_ix_lst (l : List D) (i : Int) : opIx (.d (.lst l)) (.d (.int i)) M = match atI l i with
  | some x => .ok (.d x) M
  | none => .bad := rfl
@[simp] theorem x_ix_tup (l : List D) (i : Int) : opIx (.d (.tup l)) (.d (.int i)) M = match atI l i with
  | some x => .ok (.d x) M
  | none => .bad := rfl
@[simp] theorem x_ix_scr (l : List Int) (i : Int) : opIx (.d (.scr l)) (.d (.int i)) M = match atI (l.map D.int) i with
  | some x => .ok (.d x) M
  | none => .bad := rfl
theorem x_ix_obj {k : Nat} {l : List D} (hk : M[k]? = some (.lst l)) (i : Int) : opIx (.obj k) (.d (.int i)) M = match atI l i with
  | some x => .ok (.d x) M
  | none => .bad := by
  show (match rdS M (.obj k) with | some l => (match atI l i with | some x => R.ok (Val.d x) M | none => .bad) | none => .bad) = _
  have : rdS M (.obj k) = some l := by
    unfold rdS rdT rdL plL
    dsimp only
    rw [hk]
  rw [this]
@[simp] theorem x_sNil : sNil e M = .nx e M := rfl
@[simp] theorem x_sBrk : sBrk e M = .bk e M := rfl
@[simp] theorem x_sCont : sCont e M = .ct e M := rfl
@[simp] theorem x_sSeq : sSeq F G e M = match F e M with
  | .nx e' M' => G e' M'
  | o => o := rfl
@[simp] theorem x_sExpr : sExpr f e M = rO (f e M) e fun _ M1 => .nx e M1 := rfl
@[simp] theorem x_sRet : sRet f e M = rO (f e M) e fun v M1 => .rt v M1 := rfl
@[simp] theorem x_sRetN : sRetN e M = .rt (.d .non) M := rfl
@[simp] theorem x_sIf : sIf p F G e M = rOb (p e M) e fun b M1 => if b = true then F e M1 else G e M1 := rfl
@[simp] theorem x_sSet (i : Nat) : sSet i f e M = rO (f e M) e fun v M1 => .nx (e.set i (some v)) M1 := rfl
@[simp] theorem x_sPar (i j : Nat) (fs : En → Mem → R (List Val)) : sPar i j fs e M = rOs (fs e M) e fun vs M1 => match vs with
  | [v, w] => .nx ((e.set i (some v)).set j (some w)) M1
  | _ => .bad := rfl
@[simp] theorem x_tName (i : Nat) (d : D) : tName i d e = some (e.set i (some (.d d))) := rfl
@[simp] theorem x_tNils : tNils [] e = some e := rfl
@[simp] theorem x_tCons2 (t : D → En → Option En) (ts : List D → En → Option En) (d : D) (ds : List D) : tCons2 t ts (d :: ds) e = (t d e).bind (ts ds) := rfl
@[simp] theorem x_tTup (n : Nat) (ts : List D → En → Option En) (ds : List D) : tTup n ts (.tup ds) e = if ds.length = n then ts ds e else none := rfl
@[simp] theorem x_sUnp (t : D → En → Option En) : sUnp t f e M = rO (f e M) e fun v M1 => match v with
  | .d x => (match t x e with
    | some e' => .nx e' M1
    | none => .bad)
  | _ => .bad := rfl
@[simp] theorem x_fCall (φ : List Val → Mem → R Val) (fs : En → Mem → R (List Val)) : fCall φ fs e M = rbind (fs e M) φ := rfl
@[simp] theorem x_fIsi (bt : String → Bool) (ct : Str → Option Bool) : fIsi bt ct f e M = rbind (f e M) fun v M1 => isiR bt ct M1 v := rfl
@[simp] theorem x_isi_non (bt : String → Bool) (ct : Str → Option Bool) : isiR bt ct M (.d .non) = .ok (.d (.bl (bt "NoneType"))) M := rfl
@[simp] theorem x_isi_bl (bt : String → Bool) (ct : Str → Option Bool) (b : Bool) : isiR bt ct M (.d (.bl b)) = .ok (.d (.bl (bt "bool"))) M := rfl
@[simp] theorem x_isi_int (bt : String → Bool) (ct : Str → Option Bool) (b : Int) : isiR bt ct M (.d (.int b)) = .ok (.d (.bl (bt "int"))) M := rfl
@[simp] theorem x_isi_str (bt : String → Bool) (ct : Str → Option Bool) (b : Str) : isiR bt ct M (.d (.str b)) = .ok (.d (.bl (bt "str"))) M := rfl
@[simp] theorem x_isi_scr (bt : String → Bool) (ct : Str → Option Bool) (b : List Int) : isiR bt ct M (.d (.scr b)) = .ok (.d (.bl (bt "list"))) M := rfl
@[simp] theorem x_isi_lst (bt : String → Bool) (ct : Str → Option Bool) (b : List D) : isiR bt ct M (.d (.lst b)) = .ok (.d (.bl (bt "list"))) M := rfl
@[simp] theorem x_isi_tup (bt : String → Bool) (ct : Str → Option Bool) (b : List D) : isiR bt ct M (.d (.tup b)) = .ok (.d (.bl (bt "tuple"))) M := rfl
@[simp] theorem x_isi_dct (bt : String → Bool) (ct : Str → Option Bool) (b : List (Key × D)) : isiR bt ct M (.d (.dct b)) = .ok (.d (.bl (bt "dict"))) M := rfl
@[simp] theorem x_isi_ins (bt : String → Bool) (ct : Str → Option Bool) (C : Str) (fs : List (Str × D)) : isiR bt ct M (.d (.ins C fs)) = match ct C with
  | some b => .ok (.d (.bl b)) M
  | none => .bad := rfl
@[simp] theorem x_len_lst (l : List D) : bLen [.d (.lst l)] M = .ok (.d (.int l.length)) M := rfl
@[simp] theorem x_len_tup (l : List D) : bLen [.d (.tup l)] M = .ok (.d (.int l.length)) M := rfl
@[simp] theorem x_len_scr (l : List Int) : bLen [.d (.scr l)] M = .ok (.d (.int l.length)) M := by
  show R.ok (Val.d (.int ((l.map D.int).length : Int))) M = _
  rw [List.length_map]
@[simp] theorem x_len_str (z : Str) : bLen [.d (.str z)] M = if z.length ≤ big then .ok (.d (.int z.length)) M else .bad := rfl
@[simp] theorem x_int_int (i : Int) : bInt [.d (.int i)] M = .ok (.d (.int i)) M := rfl
@[simp] theorem x_int_bl (b : Bool) : bInt [.d (.bl b)] M = .ok (.d (.int (if b then 1 else 0))) M := rfl
@[simp] theorem x_list_lst (l : List D) : bList true [.d (.lst l)] M = .ok (.d (.lst l)) M := rfl
@[simp] theorem x_list_tup (l : List D) : bList true [.d (.tup l)] M = .ok (.d (.lst l)) M := rfl
@[simp] theorem x_tup_lst (l : List D) : bTup [.d (.lst l)] M = .ok (.d (.tup l)) M := rfl
@[simp] theorem x_tup_tup (l : List D) : bTup [.d (.tup l)] M = .ok (.d (.tup l)) M := rfl
@[simp] theorem x_max2 (i j : Int) : bMax [.d (.int i), .d (.int j)] M = .ok (.d (.int (if j > i then j else i))) M := rfl
@[simp] theorem x_min2 (i j : Int) : bMin [.d (.int i), .d (.int j)] M = .ok (.d (.int (if j < i then j else i))) M := rfl
@[simp] theorem x_isN_non : isN (.d .non) = some true := rfl
@[simp] theorem x_isN_bl (b : Bool) : isN (.d (.bl b)) = some false := rfl
@[simp] theorem x_isN_int (b : Int) : isN (.d (.int b)) = some false := rfl
@[simp] theorem x_isN_str (b : Str) : isN (.d (.str b)) = some false := rfl
@[simp] theorem x_isN_tup (b : List D) : isN (.d (.tup b)) = some false := rfl
@[simp] theorem x_isN_lst (b : List D) : isN (.d (.lst b)) = some false := rfl
@[simp] theorem x_attr_ins (cs : List Str) (n : Str) : fAttr cs n f e M = rbind (f e M) fun v M1 => match insOf M1 v with
  | some (C, gs) => if C ∈ cs then (match lookF n gs with
    | some x => .ok x M1
    | none => .bad) else .bad
  | none => .bad := rfl
end
@[simp] theorem x_var0 (v : Option Val) (r : En) (M : Mem) : fVar 0 (v :: r) M = match v with
  | some v => .ok v M
  | none => .bad := by cases v <;> rfl
@[simp] theorem x_varS (i : Nat) (v : Option Val) (r : En) (M : Mem) : fVar (i + 1) (v :: r) M = fVar i r M := by
  show (match (v :: r)[i + 1]? with | some (some v) => R.ok v M | _ => .bad) = _
  rw [List.getElem?_cons_succ]; rfl
@[simp] theorem x_finish (M0 M1 : Mem) (v : Val) (h : M1.length = M0.length) : finish M0 v M1 = .ok v M1 := by
  unfold finish
  rw [if_pos h]
theorem x_okcut {M0 M1 J : Mem} (h : M1.length = M0.length) (hk : ∀ (k : Nat) (o : MO), M1[k]? = some o → M0[k]? = some o ∨ okO M0.length o = true) : OkCut M0 (M1 ++ J) := fun k o hl e => by
  rw [List.getElem?_append_left (by omega)] at e
  exact hk k o e
/-- what the def made is dropped -/
theorem x_finishD {M0 M1 J : Mem} (d : D) (h : M1.length = M0.length) (hk : ∀ (k : Nat) (o : MO), M1[k]? = some o → M0[k]? = some o ∨ okO M0.length o = true) : finish M0 (.d d) (M1 ++ J) = .ok (.d d) M1 := by
  unfold finish
  by_cases z : (M1 ++ J).length = M0.length
  · rw [if_pos z]
    have : J = [] := by
      rw [List.length_append] at z
      exact List.length_eq_zero_iff.mp (by omega)
    rw [this, List.append_nil]
  · rw [if_neg z, if_pos (x_okcut h hk)]
    show R.ok (Val.d d) ((M1 ++ J).take M0.length) = _
    rw [← h, List.take_left]
theorem x_call {n : Nat} {F : SF} {ws : List Val} {M M' : Mem} {v : Val} {m : Nat} (hm : ws.length = m) (h : F (env0 n ws) M = .rt v M') : phi n m F ws M = finish M v M' := by
  unfold phi callF
  rw [if_pos hm, h]
theorem x_callX {n : Nat} {F : SF} {ws : List Val} {M M' : Mem} {x : Exn} {e : En} {m : Nat} (hm : ws.length = m) (h : F (env0 n ws) M = .er x e M') : phi n m F ws M = finishX M x M' := by
  unfold phi callF
  rw [if_pos hm, h]
theorem x_callN {n : Nat} {F : SF} {ws : List Val} {M M' : Mem} {e : En} {m : Nat} (hm : ws.length = m) (h : F (env0 n ws) M = .nx e M') : phi n m F ws M = finish M (.d .non) M' := by
  unfold phi callF
  rw [if_pos hm, h]
theorem x_finishX (M0 M1 : Mem) (x : Exn) (h : M1.length = M0.length) : finishX M0 x M1 = .err x M1 := by
  unfold finishX
  rw [if_pos h]
/-- a comprehension that leaves the store as it is -/
theorem x_lcF {chk : Mem → Prop} {t : D → En → Option En} {ts : BF} {el : EF} {e : En} {M : Mem} (hc : chk M) : ∀ {l : List D} (e1 : D → En) (p : D → Bool) (g : D → D), (∀ x ∈ l, t x e = some (e1 x)) → (∀ x ∈ l, ts (e1 x) M = .ok (p x) M) → (∀ x ∈ l, p x = true → el (e1 x) M = .ok (.d (g x)) M) →
    lcF chk t ts el e l M = .ok ((l.filter p).map g) M
  | [], e1, p, g, _, _, _ => by
    unfold lcF
    rw [if_pos hc]; rfl
  | x :: l, e1, p, g, h1, h2, h3 => by
    have ih := x_lcF hc (l := l) e1 p g (fun y hy => h1 y (List.mem_cons_of_mem _ hy)) (fun y hy => h2 y (List.mem_cons_of_mem _ hy)) fun y hy => h3 y (List.mem_cons_of_mem _ hy)
    unfold lcF
    rw [if_pos hc, h1 x List.mem_cons_self]
    dsimp only
    rw [h2 x List.mem_cons_self]
    dsimp only
    cases hp : p x with
    | false =>
      rw [if_neg Bool.false_ne_true, ih, List.filter_cons_of_neg (by rw [hp]; exact Bool.false_ne_true)]
    | true =>
      rw [if_pos rfl, h3 x List.mem_cons_self hp, List.filter_cons_of_pos hp, List.map_cons]
      dsimp only [lcPut]
      rw [ih]
theorem x_fLc {fi : En → Mem → R Iv} {t : D → En → Option En} {ts : BF} {el : EF} {vs : List Nat} {e : En} {M M1 : Mem} {v : Iv} (hi : fi e M = .ok v M1) (hc : v.chk M1) (hb : v.l.length ≤ big) (e1 : D → En) (p : D → Bool) (g : D → D) (h1 : ∀ x ∈ v.l, t x (wipeE e vs) = some (e1 x))
    (h2 : ∀ x ∈ v.l, ts (e1 x) M1 = .ok (p x) M1) (h3 : ∀ x ∈ v.l, p x = true → el (e1 x) M1 = .ok (.d (g x)) M1) : fLc fi t ts el vs e M = .ok (.d (.lst ((v.l.filter p).map g))) M1 := by
  unfold fLc
  rw [hi]
  dsimp only
  rw [if_pos hb, x_lcF hc e1 p g h1 h2 h3]
end Vl
set_option Elab.async false
set_option linter.all false
set_option maxRecDepth 100000
set_option maxHeartbeats 4000000
/-! Vx6: an own exception made with keywords; isinstance of a caught error that has fields. -/
namespace Vx
open PySem PySem.Spec PySem.Calls PyProof.Rows HandSPX
section
variable {M : Model} {A : Around} {E : Value → Shared → Prop} {h : Heap} {g : Array GenState} {d : Drawn} {t : Nat} {os : OsState}
variable {nm q : Str} {C N : Addr} {bs bm : List Value} {hdct : Bool} {sn : List Str} {sub : List Value} {ab : Bool} {col : Option Bool} {dd : Option Addr} {k0 k1 k2 k3 k5 : Option Value}
theorem kw_check {kw : List (Str × Value)} {Q : Unit → Shared → Prop} (hT : ∀ X : String, bm.contains (.type X) = veTail.contains (.type X))
    (hC : h.get? C = some (excClassObj nm q C N bs bm hdct sn sub ab col dd k0 k1 k2 k3 k5 "ValueError.__new__")) (hq : Q () ⟨h, g, d, t, os⟩) : wpAny M A (checkBuiltinCall "ValueError.__new__" ⟨[.ref C], kw⟩) Q E ⟨h, g, d, t, os⟩ := by
  have FB := F.excBase_ValueError
  have hcont : (Value.ref C :: bm).contains (.type "ValueError") = true := by rw [List.contains_cons, hT, FB.hasB, Bool.or_true]
  have hstar := FB.noStar
  simp only [checkBuiltinCall, FB.newKind, FB.newSplit, FB.newRow]
  repeat (first | refine wpAny_loadPart_at hC ?_ | (refine wpAny_isSubtype_exc hC ?_; rw [hcont]) | refine wpAny_staticBase_exc hC ?_ | refine wpAny_madeBy_exc hC ?_ | simp only [bne_self_eq_false, Bool.false_eq_true, if_false] | wp_step)
  exact hq
theorem kw_tc {kw : List (Str × Value)} {newId : String} {Q : Unit → Shared → Prop} (hC : h.get? C = some (excClassObj nm q C N bs bm hdct sn sub ab col dd k0 k1 k2 k3 k5 newId)) (hq : Q () ⟨h, g, d, t, os⟩) : wpAny M A (checkBuiltinCall "type.__call__" ⟨[.ref C], kw⟩) Q E ⟨h, g, d, t, os⟩ := by
  have f3 := tc_sub
  have hTy : (⟨h, g, d, t, os⟩ : Shared).TypeIs (.ref C) "type" := ⟨_, hC, rfl⟩
  simp only [checkBuiltinCall, tc_kind, tc_split]
  repeat (any_goals (first | assumption | with_reducible refine wpAny_loadPart_at hC ?_ | with_reducible refine wpAny_onRaise ?_ | with_reducible refine wpAny_map ?_ | wp_step))
end
section
variable {prog : Program} {w : World} {A : Around} {E : Value → Shared → Prop} {R : Result → Shared → Prop} {h : Heap} {g : Array GenState} {d : Drawn} {t : Nat} {os : OsState}
variable {nm q : Str} {C N : Addr} {bs bm : List Value} {hdct : Bool} {sn : List Str} {sub : List Value} {ab : Bool} {col : Option Bool} {dd : Option Addr} {k0 k1 k2 k3 k5 : Option Value}
theorem kw_new {kw : List (Str × Value)} (hT : ∀ X : String, bm.contains (.type X) = veTail.contains (.type X))
    (hC : h.get? C = some (excClassObj nm q C N bs bm hdct sn sub ab col dd k0 k1 k2 k3 k5 "ValueError.__new__"))
    (hq : R (.ok (.ret (.ref (h.objs.size + 1)))) ⟨(h.push (PySem.W.kdv_tup [])).push (excO C h.objs.size), g, d, t, os⟩) :
    codeAny (model prog w) A (.builtin "ValueError.__new__" ⟨[.ref C], kw⟩) R ⟨h, g, d, t, os⟩ := by
  have FB := F.excBase_ValueError
  have hends := FB.ends
  have hcB : (Value.ref C :: bm).contains (.type "ValueError") = true := by rw [List.contains_cons, hT, FB.hasB, Bool.or_true]
  have hcA : (Value.ref C :: bm).contains (.type "AttributeError") = false := by rw [List.contains_cons, hT, FB.noAttr]; rfl
  have hcN : (Value.ref C :: bm).contains (.type "NameError") = false := by rw [List.contains_cons, hT, FB.noName]; rfl
  have hrest : ([] : List Value).length ≤ sizeLine := Nat.zero_le _
  refine codeAny_builtinAt FB.entry ?_
  unfold Builtin.«BaseException.__new__»
  refine _root_.PySem.wpAt_bind ?_
  show _root_.PySem.wpAt _ _ _ (stack >>= _) _ _ _
  refine _root_.PySem.wpAt_bind (_root_.PySem.wpAt_stack fun p below => _root_.PySem.wpAt_of_wpAny ?_)
  wp_walk
  refine _root_.PySem.wpAt_of_wpAny ?_
  rw [FB.owner]
  repeat (first | with_reducible refine wpAny_madeHere_exc FB.canon hC ?_ | with_reducible refine wpAny_loadPart_at hC ?_ | (with_reducible refine wpAny_isSubtype_exc hC ?_; first | rw [hcB] | rw [hcA] | rw [hcN]) | wp_step)
  show R _ _
  rw [Heap.size_push]
  exact hq
theorem kw_typeCall {kw : List (Str × Value)} {fI : Addr} {Q : Fin → Shared → Prop} (hT : ∀ X : String, bm.contains (.type X) = veTail.contains (.type X))
    (hC : h.get? C = some (excClassObj nm q C N bs bm hdct sn sub ab col dd k0 k1 k2 k3 k5 "ValueError.__new__")) (hi : W.Looks (model prog w) h (typeLookup (.ref C) "__init__") (some (.ref fI))) (hb : ∀ self, W.Looks (model prog w) h (bindSpecial (.ref fI) self) (.ref fI, [self]))
    (hq : codeAny (model prog w) A (.call (.ref fI) ⟨[.ref (h.objs.size + 1)], kw⟩) (fun r s' => match r with | .ok (.ret v) => v = .none ∧ Q (.done (.ret (.ref (h.objs.size + 1)))) s' | .ok _ => False | .error e => E e s') ⟨(h.push (W.kdv_tup [])).push (excO C h.objs.size), g, d, t, os⟩) :
    wpAny (model prog w) A (Builtin.«type.__call__» ⟨[.ref C], kw⟩) Q E ⟨h, g, d, t, os⟩ := by
  have FB := F.excBase_ValueError
  repeat (first | with_reducible refine wpAny_loadPart_at hC ?_ | with_reducible refine wpAny_madeBy_exc hC ?_ | wp_step)
  refine codeAny_call_builtin_code (Code.quiet_builtin _ FB.quiet) (kw_check hT hC ?_)
  refine kw_new hT hC ?_
  show wpAny _ _ _ _ _ _
  have k : ∀ b o, h.get? b = some o → ((h.push (W.kdv_tup [])).push (excO C h.objs.size)).get? b = some o := fun b o e => Heap.get?_push_of_some _ (Heap.get?_push_of_some _ e)
  have hC1 := k _ _ hC
  have hget : ((h.push (W.kdv_tup [])).push (excO C h.objs.size)).get? (h.objs.size + 1) = some (excO C h.objs.size) := by heap_get
  have hcC : (Value.ref C :: bm).contains (.ref C) = true := by simp
  have i1 := hi.keeps k
  have b1 := (hb (.ref (h.objs.size + 1))).keeps k
  unfold isInstance
  repeat (first | with_reducible refine wpAny_loadPart_at hget ?_ | (with_reducible refine wpAny_isSubtype_exc hC1 ?_; rw [hcC]) | wp_step)
  show wpAny _ _ (typeLookup (.ref C) _) _ _ _
  refine i1.at ?_
  refine wpAny_holding (wpAny_bind (b1.at ?_))
  refine wpAny_bind (wpAny_call (codeAny_mono hq fun r s' z => ?_))
  rcases r with e | (v | _ | _ | _) <;> first | exact z | exact z.elim | skip
  obtain ⟨rfl, z⟩ := z
  first
    | exact wpAny_pure (wpAny_pure z)
    | (wp_walk; exact z)
theorem kw_call {kw : List (Str × Value)} {fI : Addr} (hT : ∀ X : String, bm.contains (.type X) = veTail.contains (.type X))
    (hC : h.get? C = some (excClassObj nm q C N bs bm hdct sn sub ab col dd k0 k1 k2 k3 k5 "ValueError.__new__")) (hi : W.Looks (model prog w) h (typeLookup (.ref C) "__init__") (some (.ref fI))) (hb : ∀ self, W.Looks (model prog w) h (bindSpecial (.ref fI) self) (.ref fI, [self]))
    (hq : codeAny (model prog w) (A.under (.builtin "type.__call__" ⟨[.ref C], kw⟩)) (.call (.ref fI) ⟨[.ref (h.objs.size + 1)], kw⟩) (W.InitBack (h.objs.size + 1) R) ⟨(h.push (W.kdv_tup [])).push (excO C h.objs.size), g, d, t, os⟩) :
    codeAny (model prog w) A (.call (.ref C) ⟨[], kw⟩) R ⟨h, g, d, t, os⟩ := by
  have f1 := tc_lookup
  have f2 := tc_bind (.ref C)
  have f3 := tc_sub
  have hTy : (⟨h, g, d, t, os⟩ : Shared).TypeIs (.ref C) "type" := ⟨_, hC, rfl⟩
  refine codeAny_of_tree ?_
  show wpAny _ _ (callAny (.ref C) _) _ _ _
  repeat (any_goals (first | assumption | with_reducible refine wpAny_loadPart_at hC ?_ | wp_step))
  refine ⟨rfl, ?_⟩
  refine codeAny_call_builtin_at (Code.quiet_builtin _ (by decide +kernel)) entry_typeCall ?_
  have body := kw_typeCall (prog := prog) (w := w) (A := A.under (.builtin "type.__call__" ⟨[.ref C], kw⟩)) (g := g) (d := d) (t := t) (os := os) (kw := kw) (Q := fun fin s' => match fin with | .done f => R (.ok f) s' | .again c' => c'.quiet = true ∧ codeAny (model prog w) A c' R s') (E := fun e s' => R (.error e) s') hT hC hi hb (codeAny_mono hq fun r s' z => by
    rcases r with e | (v | _ | _ | _) <;> exact z)
  exact kw_tc hC body
end
end Vx
namespace Vx
open PySem PySem.Spec PySem.Calls PyProof.Rows L2 Vl
section
variable {X : Cx} {x f f' : Str} {e e2 : Expr} {te te2 : TE} {p pos pos' kp kp2 : Pos} {k : Nat}
/-- the made exception's dict, read -/
theorem read_made {A : Around} {C a dx t1 : Addr} {n : Str} {v : V} {u : Value} {h' : Heap} {g : Array GenState} {dr : Drawn} {tk : Nat} {os : OsState} {m : Str → Option Value} {Q : Value → Shared → Prop} {E : Value → Shared → Prop} (T : XfC X.K C) (hno : PySem.W.findIn X.K (.ref C) n = some none) (kin : X.K.In h')
    (he : h'.get? a = some ({ cls := .ref C, dict := some dx, data := .fields #[.ref t1, .none, .none, .none, .bool false, .none] } : Obj)) (hn : h'.Ns1 dx m) (hm : m n = some u) (ru : RelV v u) (q : Q u ⟨h', g, dr, tk + 1, os⟩) :
    wpAny (model X.prog X.w) A (getAttr (.ref a) n true) Q E ⟨h', g, dr, tk, os⟩ := by
  obtain ⟨od, ho, hl⟩ := lookIn_ns hn
  have J : PySem.W.InstAt h' a ({ cls := .ref C, dict := some dx, data := .fields #[.ref t1, .none, .none, .none, .bool false, .none] } : Obj) C (some od) := ⟨he, rfl, rfl, ho⟩
  exact HandSPX.exc_get kin J T.ga T.gg T.exC (PySem.W.findObj_own T.hdC hno rfl (by rw [hl, hm])) (handed_of ru) q
/-- X(f = e).f -/
theorem pe_xkw1 (cc : ECal1 X.prog X.w X.K X.mg x f) (xf : ∀ C, X.mg x = some (.ref C) → XfC X.K C ∧ PySem.W.findIn X.K (.ref C) f = some none) (hr : Room (k + 1) X.A) (hg : Gl X x) (ha : PE X e te) (hdb : (x == ("__debug__" : Str)) = false := by decide)
    (hall : (backToKw pos (keywordEach [⟨some f, e, kp⟩] X.env)).all (·.1.isSome) = true := by rfl) (hks : (backToKw pos (keywordEach [⟨some f, e, kp⟩] X.env)).filterMap (·.1) = [f] := by rfl)
    (hpl : ((backTo pos (starEach [] X.env)).any (·.1) || (backToKw pos (keywordEach [⟨some f, e, kp⟩] X.env)).any (·.1.isNone)) = false := by rfl)
    (hb : attributeBase (.Call (.Name x p) [] [⟨some f, e, kp⟩] pos) f X.env (eval (.Call (.Name x p) [] [⟨some f, e, kp⟩] pos) X.env) = eval (.Call (.Name x p) [] [⟨some f, e, kp⟩] pos) X.env := by rfl) :
    PE X (.Attribute (.Call (.Name x p) [] [⟨some f, e, kp⟩] pos) f pos') te := by
  refine ⟨fun pins s σ H Q I h => ?_⟩
  obtain ⟨C, fI, hm, T, iC, tI, run⟩ := cc.ex
  obtain ⟨nm, q, N, bs, bm, sn, sub, ab, col, dd, k0, k1, k2, k3, k5, hC, hbm, hal⟩ := T.cls
  obtain ⟨xT, hno⟩ := xf C hm
  refine attr_of hb (wpAny_Call_Name_kw (ld_glob I hg hm ?_ hdb))
  refine PySem.W.callWith_KW0 (h₀ := X.base) I.ok.mod.kin T.kC hall ?_ hpl
  have hp : PK X [⟨some f, e, kp⟩] (tCons te tNil) := pk_cons ha pk_nil
  refine thn (hp.run pos pins s σ H (fun vs H1 => match vs with | [v] => Q v H1 | _ => False) I h) fun ws s1 ⟨zs, H1, I1, rz, q1⟩ => ⟨I1.kIn, ?_⟩
  dsimp only at q1
  split at q1
  · rename_i v
    obtain ⟨u, rfl, ru⟩ := vals1 rz
    rw [hks]
    show wpAny _ _ (call (.ref C) [] [(f, u)]) _ _ _
    obtain ⟨hp', g, dr, tk, os⟩ := s1
    have hsz : hp'.objs.size ≤ hp'.objs.size + 1 := Nat.le_succ _
    have hget : ((hp'.push (PySem.W.kdv_tup [])).push (PySem.HandSPX.excO C hp'.objs.size)).get? (hp'.objs.size + 1) = some (PySem.HandSPX.excO C hp'.objs.size) := by heap_get
    have kk : ∀ b o, hp'.get? b = some o → ((hp'.push (PySem.W.kdv_tup [])).push (PySem.HandSPX.excO C hp'.objs.size)).get? b = some o := fun b o e => Heap.get?_push_of_some _ (Heap.get?_push_of_some _ e)
    have I2 : Inv X pins σ (upd H1 (hp'.objs.size + 1) (exo (hp'.objs.size + 1) C none)) ⟨(hp'.push (PySem.W.kdv_tup [])).push (PySem.HandSPX.excO C hp'.objs.size), g, dr, tk, os⟩ :=
      I1.laid (t' := tk) (a := hp'.objs.size + 1) (o := exo (hp'.objs.size + 1) C none) (h' := (hp'.push (PySem.W.kdv_tup [])).push (PySem.HandSPX.excO C hp'.objs.size)) kk hsz (exo_ok hget)
    refine wpAny_call (kw_call (fun Y => PySem.HandSPX.refsVE_contains Y bm hbm) (I1.kIn _ _ hC) (PySem.W.looks_findIn I1.kIn iC) (fun self => PySem.W.bind_fn I1.kIn self tI)
      (run _ _ _ _ u _ _ (below_of I2 (hr.make C [] [(f, u)]).depth) (.inr rfl) hget (fun o z => ?_) fun h' tk' dx t1 k1 hdx hne he' hn' => ?_))
    · have z2 := I1.kIn _ _ z
      exact absurd (Heap.lt_size z2) (by show ¬ hp'.objs.size + 1 < hp'.objs.size; omega)
    · refine ⟨rfl, ?_⟩
      have ext : ∀ b o, hp'.get? b = some o → h'.get? b = some o := fun b o z => k1 b o (Nat.ne_of_lt (Nat.lt_succ_of_lt (Heap.lt_size z))) (kk b o z)
      exact read_made xT hno (I1.kIn.keeps ext) he' hn' (show (if f = f then some u else none) = some u from if_pos rfl) ru ⟨v, H1, I1.kept (t' := tk' + 1) ext, ru, q1⟩
  · exact q1.elim
/-- X(a = e, b = e2).b, a and b X's two fields -/
theorem pe_xkw2 {a b : Str} (cc : ECal2 X.prog X.w X.K X.mg x f f') (hab : (a = f ∧ b = f') ∨ (a = f' ∧ b = f)) (xf : ∀ C, X.mg x = some (.ref C) → XfC X.K C ∧ PySem.W.findIn X.K (.ref C) b = some none) (hr : Room (k + 1) X.A) (hg : Gl X x) (ha : PE X e te) (ha2 : PE X e2 te2) (hdb : (x == ("__debug__" : Str)) = false := by decide)
    (hall : (backToKw pos (keywordEach [⟨some a, e, kp⟩, ⟨some b, e2, kp2⟩] X.env)).all (·.1.isSome) = true := by rfl) (hks : (backToKw pos (keywordEach [⟨some a, e, kp⟩, ⟨some b, e2, kp2⟩] X.env)).filterMap (·.1) = [a, b] := by rfl)
    (hpl : ((backTo pos (starEach [] X.env)).any (·.1) || (backToKw pos (keywordEach [⟨some a, e, kp⟩, ⟨some b, e2, kp2⟩] X.env)).any (·.1.isNone)) = false := by rfl)
    (hb : attributeBase (.Call (.Name x p) [] [⟨some a, e, kp⟩, ⟨some b, e2, kp2⟩] pos) b X.env (eval (.Call (.Name x p) [] [⟨some a, e, kp⟩, ⟨some b, e2, kp2⟩] pos) X.env) = eval (.Call (.Name x p) [] [⟨some a, e, kp⟩, ⟨some b, e2, kp2⟩] pos) X.env := by rfl) :
    PE X (.Attribute (.Call (.Name x p) [] [⟨some a, e, kp⟩, ⟨some b, e2, kp2⟩] pos) b pos') (fun σ H Q => te σ H fun _ H1 => te2 σ H1 Q) := by
  refine ⟨fun pins s σ H Q I h => ?_⟩
  have hff := cc.ne
  obtain ⟨C, fI, hm, T, iC, tI, run⟩ := cc.ex
  obtain ⟨nm, q, N, bs, bm, sn, sub, ab, col, dd, k0, k1, k2, k3, k5, hC, hbm, hal⟩ := T.cls
  obtain ⟨xT, hno⟩ := xf C hm
  refine attr_of hb (wpAny_Call_Name_kw (ld_glob I hg hm ?_ hdb))
  refine PySem.W.callWith_KW0 (h₀ := X.base) I.ok.mod.kin T.kC hall ?_ hpl
  have hp : PK X [⟨some a, e, kp⟩, ⟨some b, e2, kp2⟩] (tCons te (tCons te2 tNil)) := pk_cons ha (pk_cons ha2 pk_nil)
  refine thn (hp.run pos pins s σ H (fun vs H1 => match vs with | [_, v] => Q v H1 | _ => False) I h) fun ws s1 ⟨zs, H1, I1, rz, q1⟩ => ⟨I1.kIn, ?_⟩
  dsimp only at q1
  split at q1
  · rename_i v0 v
    obtain ⟨u0, u, rfl, ru0, ru⟩ := vals2 rz
    rw [hks]
    show wpAny _ _ (call (.ref C) [] [(a, u0), (b, u)]) _ _ _
    obtain ⟨hp', g, dr, tk, os⟩ := s1
    have hsz : hp'.objs.size ≤ hp'.objs.size + 1 := Nat.le_succ _
    have hget : ((hp'.push (PySem.W.kdv_tup [])).push (PySem.HandSPX.excO C hp'.objs.size)).get? (hp'.objs.size + 1) = some (PySem.HandSPX.excO C hp'.objs.size) := by heap_get
    have kk : ∀ b o, hp'.get? b = some o → ((hp'.push (PySem.W.kdv_tup [])).push (PySem.HandSPX.excO C hp'.objs.size)).get? b = some o := fun b o e => Heap.get?_push_of_some _ (Heap.get?_push_of_some _ e)
    have I2 : Inv X pins σ (upd H1 (hp'.objs.size + 1) (exo (hp'.objs.size + 1) C none)) ⟨(hp'.push (PySem.W.kdv_tup [])).push (PySem.HandSPX.excO C hp'.objs.size), g, dr, tk, os⟩ :=
      I1.laid (t' := tk) (a := hp'.objs.size + 1) (o := exo (hp'.objs.size + 1) C none) (h' := (hp'.push (PySem.W.kdv_tup [])).push (PySem.HandSPX.excO C hp'.objs.size)) kk hsz (exo_ok hget)
    have ext2 : ∀ (h' : Heap), (∀ b o, b ≠ hp'.objs.size + 1 → ((hp'.push (PySem.W.kdv_tup [])).push (PySem.HandSPX.excO C hp'.objs.size)).get? b = some o → h'.get? b = some o) → ∀ b o, hp'.get? b = some o → h'.get? b = some o := fun h' k1 b o z => k1 b o (Nat.ne_of_lt (Nat.lt_succ_of_lt (Heap.lt_size z))) (kk b o z)
    have no : ∀ o, X.K.lookup (hp'.objs.size + 1) = some o → False := fun o z => by
      have z2 := I1.kIn _ _ z
      exact absurd (Heap.lt_size z2) (by show ¬ hp'.objs.size + 1 < hp'.objs.size; omega)
    refine wpAny_call (kw_call (fun Y => PySem.HandSPX.refsVE_contains Y bm hbm) (I1.kIn _ _ hC) (PySem.W.looks_findIn I1.kIn iC) (fun self => PySem.W.bind_fn I1.kIn self tI) ?_)
    rcases hab with ⟨rfl, rfl⟩ | ⟨rfl, rfl⟩
    · refine run _ _ _ _ u0 u _ _ (below_of I2 (hr.make C [] [(a, u0), (b, u)]).depth) (.inr (.inl rfl)) hget no fun h' tk' dx t1 k1 hdx hne he' hn' => ⟨rfl, ?_⟩
      exact read_made xT hno (I1.kIn.keeps (ext2 h' k1)) he' hn' (show (if b = b then some u else if b = a then some u0 else none) = some u from if_pos rfl) ru ⟨v, H1, I1.kept (t' := tk' + 1) (ext2 h' k1), ru, q1⟩
    · refine run _ _ _ _ u u0 _ _ (below_of I2 (hr.make C [] [(a, u0), (b, u)]).depth) (.inr (.inr rfl)) hget no fun h' tk' dx t1 k1 hdx hne he' hn' => ⟨rfl, ?_⟩
      exact read_made xT hno (I1.kIn.keeps (ext2 h' k1)) he' hn' (show (if b = a then some u0 else if b = b then some u else none) = some u from by rw [if_neg hff, if_pos rfl]) ru ⟨v, H1, I1.kept (t' := tk' + 1) (ext2 h' k1), ru, q1⟩
  · exact q1.elim
/-! ### X() -/
theorem pmk_x0 {C : Addr} (gC : X.mg x = some (.ref C)) (q : PySem.W.excIn X.K C He.veBase "ValueError.__new__" = true) (kC : PySem.W.keepIn X.K (.ref C) = true) (exC : PySem.W.subIn X.K (.ref C) (.type "BaseException") = some true) (tyC : PySem.W.typeIn X.K (.ref C) = some (.type "type")) (hg : Gl X x)
    (hdb : (x == ("__debug__" : Str)) = false := by decide) : L2N.PMk X (.Call (.Name x p) [] [] pos) (fun _ H Q => Q (.ref C) none H) := by
  intro pins s σ H Q I h
  refine wpAny_Call_Name_kw (ld_glob I hg gC ?_ hdb)
  refine PySem.W.callWith_K0 I.kIn kC ?_
  show wpAny _ _ (call (.ref C) []) _ _ _
  obtain ⟨bm, N, nm, qn, bs, hdct, sn, sub, ab, col, dd, k0, k1, k2, k3, k5, mN, hC, hN, hni, T⟩ := exc_obj I.kIn q
  obtain ⟨hp, g, dr, tk, os⟩ := s
  refine wpAny_call_exc_subT F.excBase_ValueError T hC hN hni (fun h' e hm => ?_) (Nat.zero_le _)
  exact L2N.mk_of I hm (raises_own exC tyC) h (I.hok.gone hm.new)
end
/-! ### isinstance of a caught error, with fields or without -/
section
open PySem.W
variable {prog : Program} {w : World} {A : Around} {E : Value → Shared → Prop} {s : Shared} {K : Frag} {x D : Addr} {ox : Obj} {od : Option Obj}
theorem found_data {C : Addr} {name : Str} {a g : Value} (hc : (clsIn K C).isSome = true) (ha : findIn K (.ref C) name = some (some a)) (hg : specialIn K a "__get__" = some (some g)) (ht : takesIn K a = some true) : findObj K C od name = some (.bind g a) := by
  obtain ⟨cd, hc⟩ := Option.isSome_iff_exists.mp hc
  unfold findObj
  rw [hc, Option.bind_some, ha, Option.bind_some]
  simp [hg, ht]
theorem class_read {Q : Option Value → Shared → Prop} (C : ExcC K D) (X : K.In s.heap) (I : InstAt s.heap x ox D od) (h : Q (some (.ref D)) { s with toks := s.toks + 1 }) : wpAny (model prog w) A (getAttr? (.ref x) "__class__") Q E s := by
  have hf : findObj K D od "__class__" = some (.bind (.builtin "getset_descriptor.__get__") (.builtin "object.__class__")) := found_data (by obtain ⟨cd, hc, _⟩ := any_some C.hd; rw [hc]; rfl) C.ha C.hn C.ht
  obtain ⟨hp, g, d, t, os⟩ := s
  have L0 := I.type (M := model prog w)
  have L1 := looks_findIn (M := model prog w) X C.hg
  have L2 := looks_findIn (M := model prog w) X C.hk
  have L3 := looks_find (M := model prog w) X I hf
  have sub : Looks (model prog w) hp (isInstance (.ref x) (.type "BaseException")) true := L0.andThen (looks_subIn X C.hs)
  have hx0 : (false && onTheHeap (Value.builtin "BaseException.__getattribute__")) = false := rfl
  have hx2 : (Value.builtin "BaseException.__getattribute__" == Value.builtin "object.__getattribute__") = false := by decide +kernel
  have hx1 : (onTheHeap (Value.ref D) && Value.builtin "BaseException.__getattribute__" == Value.builtin "object.__getattribute__") = false := by rw [hx2]; rfl
  unfold getAttr? getAttrBy? getAttrBy
  refine wpAny_bind (wpAny_mkText (wpAny_bind (wpAny_attempt (wpAny_holding (wpAny_bind (L0.at (wpAny_bind (L1.at ?_))))))))
  show wpAny _ _ (if (onTheHeap (Value.ref D) && Value.builtin "BaseException.__getattribute__" == Value.builtin "object.__getattribute__") = true then _ else _) _ _ _
  rw [hx1, if_neg Bool.false_ne_true]
  unfold getAttrByItsOwn hookBefore
  refine wpAny_bind ?_
  rw [if_pos (show onTheHeap (Value.ref D) = true from rfl)]
  refine L2.at ?_
  refine wpAny_bind (wpAny_attempt (wpAny_holding ?_))
  unfold callGetattribute
  rw [hx0, if_neg Bool.false_ne_true]
  unfold boundAndCalled
  rw [PySem.F.excAttr_ValueError.ga.bind (.ref x)]
  refine wpAny_bind (wpAny_pure ?_)
  show wpAny _ _ (call (.builtin "BaseException.__getattribute__") [.ref x, .str "__class__" t]) _ _ _
  refine wpAny_call (codeAny_call_builtin PySem.F.excAttr_ValueError.ga.plain PySem.F.entry_bexc_ga ?_)
  refine @check_slot (model prog w) _ _ ⟨hp, g, d, t + 1, os⟩ "BaseException.__getattribute__" "BaseException" "__getattribute__" (.ref x) [.str "__class__" t] [] _ (by decide +kernel) (by decide +kernel) sub (PySem.F.args_bexc_ga (.ref x) (.str "__class__" t)) ?_
  unfold Builtin.«object.__getattribute__»
  refine wpAny_bind (wpAny_of_eq (a := ((Value.ref x : Value), [Value.str "__class__" t])) (by first | rfl | (simp only [slotArgs]; rfl)) ?_)
  refine wpAny_bind (wpAny_pure (wpAny_bind (L0.at (wpAny_bind (L3.at ?_)))))
  show wpAny _ _ (holding [Value.builtin "object.__class__"] (call (.builtin "getset_descriptor.__get__") [.builtin "object.__class__", .ref x, .ref D]) >>= ret) _ _ _
  refine wpAny_bind (wpAny_holding (wpAny_call (class_get (s := ⟨hp, g, d, t + 1, os⟩) (ox := ox) (od := od) X I C.hm ?_)))
  refine wpAny_pure ?_
  show wpAny _ _ (handedOut (.ref D)) _ _ _
  rw [handedOut_of (v := .ref D) rfl]
  first
    | exact wpAny_pure (wpAny_pure h)
    | exact wpAny_pure h
    | exact wpAny_pure (wpAny_bind (wpAny_pure (wpAny_pure h)))
theorem kitx_caught (C : ExcC K D) : KitX K (.ref x) (.ref D) (fun h => InstAt h x ox D od) where
  ty := fun _ _ _ I => I.type
  it := fun _ _ X _ => by
    obtain ⟨cdD, hcD, _⟩ := any_some C.hd
    unfold clsIn at hcD
    split at hcD
    · rename_i c' d' cd' sl' ho
      intro A' Q' E' s' k q
      unfold isType loadHead
      exact wpAny_bind (wpAny_loadPart (k _ _ (X _ _ ho)) (wpAny_pure q))
    · cases hcD
  ne := fun h tp dd its n sl X htp => by
    obtain ⟨cdD, hcD, _⟩ := any_some C.hd
    refine Bool.eq_false_iff.mpr fun q => ?_
    have e : D = tp := Value.ref.inj (beq_iff_eq.mp q)
    subst e
    unfold clsIn at hcD
    split at hcD
    · rename_i c' d' cd' sl' ho
      have z := (X _ _ ho).symm.trans htp
      cases z
    · cases hcD
  ca := fun X I k => class_read C X I k
end
end Vx
namespace Vl
open PySem PySem.Spec PySem.Calls PyProof.Rows L2 Vx
section
variable {X : Cx} {W : WX} {a : Addr} {oe : Obj} {cls : Value} {d : Option Addr} {pn : List (Addr × Obj)} {e T : Expr} {f g : EF} {p pos : Pos}
theorem call_isX (hz : L2N.Zn cls d oe) (hf : ∃ vs, oe.data = .fields vs) : CallR (X.suite a ((a, oe) :: pn)) (.builtin "isinstance") (fun xs H Q => ∃ (c : V) (cv : Value) (b : Bool) (D : Addr), xs = [.ref a, c] ∧ ClsV c cv ∧ cls = .ref D ∧ ExcC X.K D ∧ PySem.W.kitOne X.K (.ref D) cv = some b ∧
    (d = none ∨ ∃ dd fs, d = some dd ∧ H dd = some (.xd fs)) ∧ Q (.bl b) H) := by
  intro pins s σ H xs us Q I r h
  obtain ⟨c, cv, b, D, rfl, hcv, ec, C, e, hd, q⟩ := h
  obtain ⟨u1, u2, rfl, r1, r2⟩ := vals2 r
  have e2 := hcv.eq r2
  subst e2
  obtain rfl : u1 = Value.ref a := r1
  obtain ⟨hget, _⟩ := I.pin (a, oe) (List.mem_append.mpr (.inl List.mem_cons_self))
  obtain ⟨vs, hv⟩ := hf
  have J : ∃ od, PySem.W.InstAt s.heap a oe D od := by
    obtain ⟨h1, h2, _⟩ := hz
    rcases hd with hd | ⟨dd, fs, hd, hH⟩
    · exact ⟨none, hget, by rw [h1, ec], by unfold PySem.W.notCls; rw [hv], by rw [h2, hd]; trivial⟩
    · have hx : ObjOk X.prog X.w H s.heap dd (.xd fs) := I.hok dd _ hH
      obtain ⟨mA, ⟨o, es, ep, ho, r⟩, hr⟩ := hx
      exact ⟨some o, hget, by rw [h1, ec], by unfold PySem.W.notCls; rw [hv], by rw [h2, hd]; exact ho⟩
  obtain ⟨od, J⟩ := J
  exact PySem.W.kia_one (kitx_caught C) I.kIn J e (fun z => nomatch z) fun tk => ⟨.bl b, H, I.kept (t' := tk) fun _ _ z => z, rfl, q⟩
/-- isinstance(e, T), e the caught error -/
def fIsX (ct : Str → Option Bool) (f : EF) : EF := fun e M => rbind (f e M) fun v M1 => match v with
  | .exc x => (match ct x.cls with
    | some b => .ok (.d (.bl b)) M1
    | none => .bad)
  | _ => .bad
theorem ve_isX {c : V} {cv : Value} {ct : Str → Option Bool} (hz : L2N.Zn cls d oe) (hf : ∃ vs, oe.data = .fields vs) (hT : PE (X.suite a ((a, oe) :: pn)) T (tC c)) (hc : ClsV c cv) (hcs : ∀ cn b C, ct cn = some b → X.mg cn = some (.ref C) → ExcC X.K C ∧ PySem.W.kitOne X.K (.ref C) cv = some b)
    (hg : Gl X "isinstance") (hm : X.mg "isinstance" = none) (he : VE (X.suite a ((a, oe) :: pn)) W e f) (hs : starEach (e :: [T]) X.env = (false, eval e X.env) :: starEach [T] X.env := by rfl) (hs2 : starEach (T :: []) X.env = (false, eval T X.env) :: starEach [] X.env := by rfl)
    (hpl : (backTo pos (starEach [T] X.env)).any (·.1) = false := by rfl) : VE (X.suite a ((a, oe) :: pn)) W (.Call (.Name "isinstance" p) [e, T] [] pos) (fIsX ct f) := by
  have eg : gm (X.suite a ((a, oe) :: pn)) = ⟨X.mg, X.K, some (a, cls, d)⟩ := gm_suite hz
  refine pe_imp (pe_callB (X := X.suite a ((a, oe) :: pn)) (call_isX hz hf) hg hm (by decide +kernel) (pa_cons he (pa_cons hT pa_nil hs2) hs) (by decide) (by decide) hs hpl) fun σ H Q h => ?_
  refine lift_bind h fun ρ env M H1 u v es rv q => ?_
  rw [eg] at rv
  cases v with
  | d x => exact q.elim
  | obj k => exact q.elim
  | exc x =>
    obtain ⟨a', cls', dd', eh, eu, rx⟩ := rv
    cases eh
    subst eu
    dsimp only at q
    split at q
    · rename_i b eb
      obtain ⟨C2, m2, c2, z⟩ := rx
      obtain ⟨xc, kb⟩ := hcs _ _ _ eb m2
      refine ⟨c, cv, b, C2, rfl, hc, c2, xc, kb, ?_, q ρ _ H1 .refl es.gs rfl⟩
      rcases z with ⟨_, z⟩ | ⟨dd, fs, ed, eH, _⟩
      · exact .inl z
      · exact .inr ⟨dd, fs, ed, eH⟩
    · exact q.elim
end
section
variable {X : Cx} {W : WX} {x n n' : Str} {e e2 : Expr} {f g : EF} {p pos pos' kp kp2 : Pos} {k : Nat}
theorem ve_xkw1 (cc : ECal1 X.prog X.w X.K X.mg x n) (xf : ∀ C, X.mg x = some (.ref C) → XfC X.K C ∧ PySem.W.findIn X.K (.ref C) n = some none) (hr : Room (k + 1) X.A) (hg : Gl X x) (ha : VE X W e f) (hdb : (x == ("__debug__" : Str)) = false := by decide)
    (hall : (backToKw pos (keywordEach [⟨some n, e, kp⟩] X.env)).all (·.1.isSome) = true := by rfl) (hks : (backToKw pos (keywordEach [⟨some n, e, kp⟩] X.env)).filterMap (·.1) = [n] := by rfl)
    (hpl : ((backTo pos (starEach [] X.env)).any (·.1) || (backToKw pos (keywordEach [⟨some n, e, kp⟩] X.env)).any (·.1.isNone)) = false := by rfl) : VE X W (.Attribute (.Call (.Name x p) [] [⟨some n, e, kp⟩] pos) n pos') f := pe_xkw1 cc xf hr hg ha hdb hall hks hpl
def fSnd (f g : EF) : EF := fun e M => rbind (f e M) fun _ M1 => g e M1
theorem ve_xkw2 {a b : Str} (cc : ECal2 X.prog X.w X.K X.mg x n n') (hab : (a = n ∧ b = n') ∨ (a = n' ∧ b = n)) (xf : ∀ C, X.mg x = some (.ref C) → XfC X.K C ∧ PySem.W.findIn X.K (.ref C) b = some none) (hr : Room (k + 1) X.A) (hg : Gl X x) (ha : VE X W e f) (hb : VE X W e2 g) (hdb : (x == ("__debug__" : Str)) = false := by decide)
    (hall : (backToKw pos (keywordEach [⟨some a, e, kp⟩, ⟨some b, e2, kp2⟩] X.env)).all (·.1.isSome) = true := by rfl) (hks : (backToKw pos (keywordEach [⟨some a, e, kp⟩, ⟨some b, e2, kp2⟩] X.env)).filterMap (·.1) = [a, b] := by rfl)
    (hpl : ((backTo pos (starEach [] X.env)).any (·.1) || (backToKw pos (keywordEach [⟨some a, e, kp⟩, ⟨some b, e2, kp2⟩] X.env)).any (·.1.isNone)) = false := by rfl) : VE X W (.Attribute (.Call (.Name x p) [] [⟨some a, e, kp⟩, ⟨some b, e2, kp2⟩] pos) b pos') (fSnd f g) :=
  pe_imp (pe_xkw2 cc hab xf hr hg ha hb hdb hall hks hpl) fun σ H Q h => lift_bind h fun ρ env M H1 u v es rv q => ⟨ρ, env, M, es, q⟩
/-- raise X() -/
def sRaise0 (x : Str) : SF := fun e M => .er ⟨x, []⟩ e M
structure ECal0 (K : PySem.W.Frag) (mg : Str → Option Value) (x : Str) : Prop where
  ex : ∃ C, mg x = some (.ref C) ∧ PySem.W.excIn K C He.veBase "ValueError.__new__" = true ∧ PySem.W.keepIn K (.ref C) = true ∧ PySem.W.subIn K (.ref C) (.type "BaseException") = some true ∧ PySem.W.typeIn K (.ref C) = some (.type "type")
theorem vs_raise0 (cc : ECal0 X.K X.mg x) (hc : X.calm = true) (tk : L2N.Takes X W) (hg : Gl X x) (hdb : (x == ("__debug__" : Str)) = false := by decide) : VS X W (.Raise (some (.Call (.Name x p) [] [] pos)) none pos') (sRaise0 x) := by
  obtain ⟨C, gC, q, kC, exC, tyC⟩ := cc.ex
  exact ps_imp (L2N.ps_raise hc tk (pmk_x0 gC q kC exC tyC hg hdb)) fun D σ H ⟨ρ, env, M, es, h⟩ => h ρ σ _ _ H .refl es ⟨C, gC, rfl, .inl ⟨rfl, rfl⟩⟩
end
end Vl
set_option Elab.async false
set_option linter.all false
set_option maxRecDepth 100000
set_option maxHeartbeats 4000000
/-! Vx7: what a class of exceptions must say, asked of the head. -/
namespace Vx
open PySem PySem.Spec PyProof.Rows L2 Vl
def excCB (K : PySem.W.Frag) (D : Addr) : Bool := decide (PySem.W.findIn K (.ref D) "__getattribute__" = some (some (.builtin "BaseException.__getattribute__"))) && (decide (PySem.W.findIn K (.ref D) "__getattr__" = some none) && (decide (PySem.W.subIn K (.ref D) (.type "BaseException") = some true) && (PySem.W.hasDictIn K D &&
  (decide (PySem.W.findIn K (.ref D) "__class__" = some (some (.builtin "object.__class__"))) && (decide (PySem.W.specialIn K (.builtin "object.__class__") "__get__" = some (some (.builtin "getset_descriptor.__get__"))) &&
  (decide (PySem.W.takesIn K (.builtin "object.__class__") = some true) && decide (PySem.W.mroIn K D (.type "object") = some true)))))))
theorem excCB_ok {K : PySem.W.Frag} {D : Addr} (h : excCB K D = true) : ExcC K D := by
  obtain ⟨h1, h⟩ := ba2 h
  obtain ⟨h2, h⟩ := ba2 h
  obtain ⟨h3, h⟩ := ba2 h
  obtain ⟨h4, h⟩ := ba2 h
  obtain ⟨h5, h⟩ := ba2 h
  obtain ⟨h6, h⟩ := ba2 h
  obtain ⟨h7, h8⟩ := ba2 h
  exact ⟨of_decide_eq_true h1, of_decide_eq_true h2, of_decide_eq_true h3, h4, of_decide_eq_true h5, of_decide_eq_true h6, of_decide_eq_true h7, of_decide_eq_true h8⟩
def ecal0B (K : PySem.W.Frag) (C : Addr) : Bool := PySem.W.excIn K C He.veBase "ValueError.__new__" && (PySem.W.keepIn K (.ref C) && (decide (PySem.W.subIn K (.ref C) (.type "BaseException") = some true) && decide (PySem.W.typeIn K (.ref C) = some (.type "type"))))
theorem ecal0B_ok {K : PySem.W.Frag} {mg : Str → Option Value} {x : Str} {C : Addr} (hm : mg x = some (.ref C)) (h : ecal0B K C = true) : ECal0 K mg x := by
  obtain ⟨h1, h⟩ := ba2 h
  obtain ⟨h2, h⟩ := ba2 h
  obtain ⟨h3, h4⟩ := ba2 h
  exact ⟨C, hm, h1, h2, of_decide_eq_true h3, of_decide_eq_true h4⟩
end Vx
set_option Elab.async false
set_option linter.all false
set_option maxRecDepth 100000
set_option maxHeartbeats 4000000
/-! The law k00_whole_ladders: its defs as functions (printed by gen.py). -/
namespace Wk00
open PySem PySem.Spec PyProof.Rows L2 Vl Vx
abbrev top (i : Nat) : Stmt := PySem.Challenge.pw_hammerkept_k00_whole_ladders.main.body.getD i (.Pass ⟨0, 0, 0, 0⟩)
abbrev clsB (st : Stmt) : List Stmt := match st with
  | .ClassDef _ _ _ b _ _ _ _ _ _ _ => b
  | _ => []
abbrev mth (i j : Nat) : Stmt := (clsB (top i)).getD j (.Pass ⟨0, 0, 0, 0⟩)
abbrev fa : List He.Fa := [.free "ValueError", .free "isinstance", .free "enumerate", .free "tuple", .free "range", .free "int", .free "list", .free "len", .free "str", .free "bool", .free "min", .free "max", .free "super", .glo "is_whole", .glo "is_number", .glo "is_row", .glo "frozen", .glo "want_row", .glo "is_step", .glo "_law_taken", .glo "_law_pick", .glo "_law_alike", .glo "_law_mixed", .glo "_law_truth", .glo "_law_whole", .glo "_law_refused_row", .glo "_law_steps", .glo "_law_bids", .glo "_law_raised", .glo "law", .glo "HammerError", .glo "BadItem", .glo "TooMany", .glo "Ladder", .int "MOST_STEPS" 12, .int "MOST_BID" 99999, .cls "Ladder", .noat "Ladder" "steps", .mkr "Ladder", .meth "Ladder" "step_at", .meth "Ladder" "is_bid", .meth "Ladder" "next_bid", .meth "Ladder" "down", .meth "Ladder" "up", .meth "Ladder" "rungs", .noat "BadItem" "index", .noat "TooMany" "limit", .exm "HammerError" "BadItem" false, .exm "BadItem" "BadItem" true, .exm "TooMany" "BadItem" false, .exm "HammerError" "TooMany" false, .exm "BadItem" "TooMany" false, .exm "TooMany" "TooMany" true]
abbrev dd_is_whole : He.DefD := ⟨("is_whole", none), "is_whole", "is_whole", defArgs (top 5), defBody (top 5), defScope (top 5), [], []⟩
abbrev dd_is_number : He.DefD := ⟨("is_number", none), "is_number", "is_number", defArgs (top 6), defBody (top 6), defScope (top 6), [], []⟩
abbrev dd_is_row : He.DefD := ⟨("is_row", none), "is_row", "is_row", defArgs (top 7), defBody (top 7), defScope (top 7), [], []⟩
abbrev dd_frozen : He.DefD := ⟨("frozen", none), "frozen", "frozen", defArgs (top 8), defBody (top 8), defScope (top 8), [], []⟩
abbrev dd_want_row : He.DefD := ⟨("want_row", none), "want_row", "want_row", defArgs (top 9), defBody (top 9), defScope (top 9), [], []⟩
abbrev dd_is_step : He.DefD := ⟨("is_step", none), "is_step", "is_step", defArgs (top 13), defBody (top 13), defScope (top 13), [], []⟩
abbrev dd__law_taken : He.DefD := ⟨("_law_taken", none), "_law_taken", "_law_taken", defArgs (top 16), defBody (top 16), defScope (top 16), [], []⟩
abbrev dd__law_pick : He.DefD := ⟨("_law_pick", none), "_law_pick", "_law_pick", defArgs (top 17), defBody (top 17), defScope (top 17), [], []⟩
abbrev dd__law_alike : He.DefD := ⟨("_law_alike", none), "_law_alike", "_law_alike", defArgs (top 18), defBody (top 18), defScope (top 18), [], []⟩
abbrev dd__law_mixed : He.DefD := ⟨("_law_mixed", none), "_law_mixed", "_law_mixed", defArgs (top 19), defBody (top 19), defScope (top 19), [], []⟩
abbrev dd__law_truth : He.DefD := ⟨("_law_truth", none), "_law_truth", "_law_truth", defArgs (top 20), defBody (top 20), defScope (top 20), [], []⟩
abbrev dd__law_whole : He.DefD := ⟨("_law_whole", none), "_law_whole", "_law_whole", defArgs (top 21), defBody (top 21), defScope (top 21), [], []⟩
abbrev dd__law_refused_row : He.DefD := ⟨("_law_refused_row", none), "_law_refused_row", "_law_refused_row", defArgs (top 22), defBody (top 22), defScope (top 22), [], []⟩
abbrev dd__law_steps : He.DefD := ⟨("_law_steps", none), "_law_steps", "_law_steps", defArgs (top 23), defBody (top 23), defScope (top 23), [], []⟩
abbrev dd__law_bids : He.DefD := ⟨("_law_bids", none), "_law_bids", "_law_bids", defArgs (top 24), defBody (top 24), defScope (top 24), [], []⟩
abbrev dd__law_raised : He.DefD := ⟨("_law_raised", none), "_law_raised", "_law_raised", defArgs (top 25), defBody (top 25), defScope (top 25), [], []⟩
abbrev dd_law : He.DefD := ⟨("law", none), "law", "law", defArgs (top 26), defBody (top 26), defScope (top 26), [], []⟩
abbrev dd_Ladder_init : He.DefD := ⟨("Ladder", some "__init__"), "__init__", "Ladder.__init__", defArgs (mth 14 0), defBody (mth 14 0), defScope (mth 14 0), [], []⟩
abbrev dd_Ladder_eq : He.DefD := ⟨("Ladder", some "__eq__"), "__eq__", "Ladder.__eq__", defArgs (mth 14 1), defBody (mth 14 1), defScope (mth 14 1), [], []⟩
abbrev dd_Ladder_step_at : He.DefD := ⟨("Ladder", some "step_at"), "step_at", "Ladder.step_at", defArgs (mth 14 2), defBody (mth 14 2), defScope (mth 14 2), [], []⟩
abbrev dd_Ladder_is_bid : He.DefD := ⟨("Ladder", some "is_bid"), "is_bid", "Ladder.is_bid", defArgs (mth 14 3), defBody (mth 14 3), defScope (mth 14 3), [], []⟩
abbrev dd_Ladder_next_bid : He.DefD := ⟨("Ladder", some "next_bid"), "next_bid", "Ladder.next_bid", defArgs (mth 14 4), defBody (mth 14 4), defScope (mth 14 4), [], []⟩
abbrev dd_Ladder_down : He.DefD := ⟨("Ladder", some "down"), "down", "Ladder.down", defArgs (mth 14 5), defBody (mth 14 5), defScope (mth 14 5), [], []⟩
abbrev dd_Ladder_up : He.DefD := ⟨("Ladder", some "up"), "up", "Ladder.up", defArgs (mth 14 6), defBody (mth 14 6), defScope (mth 14 6), [], []⟩
abbrev dd_Ladder_rungs : He.DefD := ⟨("Ladder", some "rungs"), "rungs", "Ladder.rungs", defArgs (mth 14 7), defBody (mth 14 7), defScope (mth 14 7), [], []⟩
abbrev fn : List He.DefD := [dd_is_whole, dd_is_number, dd_is_row, dd_frozen, dd_want_row, dd_is_step, dd__law_taken, dd__law_pick, dd__law_alike, dd__law_mixed, dd__law_truth, dd__law_whole, dd__law_refused_row, dd__law_steps, dd__law_bids, dd__law_raised, dd_law, dd_Ladder_init, dd_Ladder_eq, dd_Ladder_step_at, dd_Ladder_is_bid, dd_Ladder_next_bid, dd_Ladder_down, dd_Ladder_up, dd_Ladder_rungs]
abbrev xd_BadItem : XDef := ⟨"BadItem", "BadItem.__init__", defArgs (mth 2 0), defBody (mth 2 0), defScope (mth 2 0)⟩
abbrev xd_TooMany : XDef := ⟨"TooMany", "TooMany.__init__", defArgs (mth 3 0), defBody (mth 3 0), defScope (mth 3 0)⟩
abbrev xs : List XDef := [xd_BadItem, xd_TooMany]
abbrev exs (K : PySem.W.Frag) : List Bool := [isClsB K (He.ga K "Ladder"), eqB K (He.ga K "Ladder") (He.fAd K ("Ladder", some "__eq__")), askB K (He.ga K "Ladder"), xfB K (He.ga K "HammerError"), xfB K (He.ga K "BadItem"), xfB K (He.ga K "TooMany")]
abbrev hd : Hd := ⟨fa, fn, xs, fun K => (exs K).all id, "/claim/cut.py"⟩
structure Ax (K : PySem.W.Frag) (mg : Str → Option Value) (base : Heap) : Prop where
  c : SaysV hd K
  X : K.In base
  G : base.Ns mainGlobals mg
section
variable {P : Program} {w : World} {K : PySem.W.Frag} {mg : Str → Option Value} {base : Heap}
theorem Ax.e (z : Ax K mg base) (i : Nat) {b : Bool} (h : (exs K)[i]? = some b) : b = true := List.all_eq_true.mp z.c.ex b (List.mem_of_getElem? h)
theorem g_ValueError (z : Ax K mg base) : mg "ValueError" = none := He.free_ok z.X z.G (z.c.d.fact 0 rfl)
theorem g_isinstance (z : Ax K mg base) : mg "isinstance" = none := He.free_ok z.X z.G (z.c.d.fact 1 rfl)
theorem g_enumerate (z : Ax K mg base) : mg "enumerate" = none := He.free_ok z.X z.G (z.c.d.fact 2 rfl)
theorem g_tuple (z : Ax K mg base) : mg "tuple" = none := He.free_ok z.X z.G (z.c.d.fact 3 rfl)
theorem g_range (z : Ax K mg base) : mg "range" = none := He.free_ok z.X z.G (z.c.d.fact 4 rfl)
theorem g_int (z : Ax K mg base) : mg "int" = none := He.free_ok z.X z.G (z.c.d.fact 5 rfl)
theorem g_list (z : Ax K mg base) : mg "list" = none := He.free_ok z.X z.G (z.c.d.fact 6 rfl)
theorem g_len (z : Ax K mg base) : mg "len" = none := He.free_ok z.X z.G (z.c.d.fact 7 rfl)
theorem g_str (z : Ax K mg base) : mg "str" = none := He.free_ok z.X z.G (z.c.d.fact 8 rfl)
theorem g_bool (z : Ax K mg base) : mg "bool" = none := He.free_ok z.X z.G (z.c.d.fact 9 rfl)
theorem g_min (z : Ax K mg base) : mg "min" = none := He.free_ok z.X z.G (z.c.d.fact 10 rfl)
theorem g_max (z : Ax K mg base) : mg "max" = none := He.free_ok z.X z.G (z.c.d.fact 11 rfl)
theorem g_super (z : Ax K mg base) : mg "super" = none := He.free_ok z.X z.G (z.c.d.fact 12 rfl)
theorem g_is_whole (z : Ax K mg base) : mg "is_whole" = some (.ref (He.ga K "is_whole")) := He.glo_ok z.X z.G (z.c.d.fact 13 rfl)
theorem g_is_number (z : Ax K mg base) : mg "is_number" = some (.ref (He.ga K "is_number")) := He.glo_ok z.X z.G (z.c.d.fact 14 rfl)
theorem g_is_row (z : Ax K mg base) : mg "is_row" = some (.ref (He.ga K "is_row")) := He.glo_ok z.X z.G (z.c.d.fact 15 rfl)
theorem g_frozen (z : Ax K mg base) : mg "frozen" = some (.ref (He.ga K "frozen")) := He.glo_ok z.X z.G (z.c.d.fact 16 rfl)
theorem g_want_row (z : Ax K mg base) : mg "want_row" = some (.ref (He.ga K "want_row")) := He.glo_ok z.X z.G (z.c.d.fact 17 rfl)
theorem g_is_step (z : Ax K mg base) : mg "is_step" = some (.ref (He.ga K "is_step")) := He.glo_ok z.X z.G (z.c.d.fact 18 rfl)
theorem g__law_taken (z : Ax K mg base) : mg "_law_taken" = some (.ref (He.ga K "_law_taken")) := He.glo_ok z.X z.G (z.c.d.fact 19 rfl)
theorem g__law_pick (z : Ax K mg base) : mg "_law_pick" = some (.ref (He.ga K "_law_pick")) := He.glo_ok z.X z.G (z.c.d.fact 20 rfl)
theorem g__law_alike (z : Ax K mg base) : mg "_law_alike" = some (.ref (He.ga K "_law_alike")) := He.glo_ok z.X z.G (z.c.d.fact 21 rfl)
theorem g__law_mixed (z : Ax K mg base) : mg "_law_mixed" = some (.ref (He.ga K "_law_mixed")) := He.glo_ok z.X z.G (z.c.d.fact 22 rfl)
theorem g__law_truth (z : Ax K mg base) : mg "_law_truth" = some (.ref (He.ga K "_law_truth")) := He.glo_ok z.X z.G (z.c.d.fact 23 rfl)
theorem g__law_whole (z : Ax K mg base) : mg "_law_whole" = some (.ref (He.ga K "_law_whole")) := He.glo_ok z.X z.G (z.c.d.fact 24 rfl)
theorem g__law_refused_row (z : Ax K mg base) : mg "_law_refused_row" = some (.ref (He.ga K "_law_refused_row")) := He.glo_ok z.X z.G (z.c.d.fact 25 rfl)
theorem g__law_steps (z : Ax K mg base) : mg "_law_steps" = some (.ref (He.ga K "_law_steps")) := He.glo_ok z.X z.G (z.c.d.fact 26 rfl)
theorem g__law_bids (z : Ax K mg base) : mg "_law_bids" = some (.ref (He.ga K "_law_bids")) := He.glo_ok z.X z.G (z.c.d.fact 27 rfl)
theorem g__law_raised (z : Ax K mg base) : mg "_law_raised" = some (.ref (He.ga K "_law_raised")) := He.glo_ok z.X z.G (z.c.d.fact 28 rfl)
theorem g_law (z : Ax K mg base) : mg "law" = some (.ref (He.ga K "law")) := He.glo_ok z.X z.G (z.c.d.fact 29 rfl)
theorem g_HammerError (z : Ax K mg base) : mg "HammerError" = some (.ref (He.ga K "HammerError")) := He.glo_ok z.X z.G (z.c.d.fact 30 rfl)
theorem g_BadItem (z : Ax K mg base) : mg "BadItem" = some (.ref (He.ga K "BadItem")) := He.glo_ok z.X z.G (z.c.d.fact 31 rfl)
theorem g_TooMany (z : Ax K mg base) : mg "TooMany" = some (.ref (He.ga K "TooMany")) := He.glo_ok z.X z.G (z.c.d.fact 32 rfl)
theorem g_Ladder (z : Ax K mg base) : mg "Ladder" = some (.ref (He.ga K "Ladder")) := He.glo_ok z.X z.G (z.c.d.fact 33 rfl)
theorem g_MOST_STEPS (z : Ax K mg base) : ∃ t, mg "MOST_STEPS" = some (.int 12 t) := He.int_ok z.X z.G (z.c.d.fact 34 rfl)
theorem g_MOST_BID (z : Ax K mg base) : ∃ t, mg "MOST_BID" = some (.int 99999 t) := He.int_ok z.X z.G (z.c.d.fact 35 rfl)
theorem cls_Ladder (z : Ax K mg base) : Cls K (He.ga K "Ladder") := He.cls_ok (z.c.d.fact 36 rfl)
theorem is_Ladder (z : Ax K mg base) : IsCls K (He.ga K "Ladder") := isClsB_ok (cls_Ladder z) (z.e 0 rfl)
theorem ask_Ladder (z : Ax K mg base) : ∀ n ∈ tys, PySem.W.kitOne K (.type n) (.ref (He.ga K "Ladder")) = some false := askB_ok (z.e 2 rfl)
def ct_Ladder (x : Str) : Option Bool := if x = "Ladder" then some true else none
theorem ac_Ladder (z : Ax K mg base) : ∀ cn b, ct_Ladder cn = some b → AskC K mg cn (.ref (He.ga K "Ladder")) b := fun cn b h => by
  unfold ct_Ladder at h
  split at h
  · rename_i e
    cases h
    subst e
    exact ask_self (g_Ladder z) (is_Ladder z)
  · cases h
def ct_int (_ : Str) : Option Bool := none
theorem ac_int (_ : Ax K mg base) : ∀ cn b, ct_int cn = some b → AskC K mg cn (.type "int") b := fun cn b h => nomatch h
def ct_bool (_ : Str) : Option Bool := none
theorem ac_bool (_ : Ax K mg base) : ∀ cn b, ct_bool cn = some b → AskC K mg cn (.type "bool") b := fun cn b h => nomatch h
def ct_str (_ : Str) : Option Bool := none
theorem ac_str (_ : Ax K mg base) : ∀ cn b, ct_str cn = some b → AskC K mg cn (.type "str") b := fun cn b h => nomatch h
def ct_list (_ : Str) : Option Bool := none
theorem ac_list (_ : Ax K mg base) : ∀ cn b, ct_list cn = some b → AskC K mg cn (.type "list") b := fun cn b h => nomatch h
def ct_tuple (_ : Str) : Option Bool := none
theorem ac_tuple (_ : Ax K mg base) : ∀ cn b, ct_tuple cn = some b → AskC K mg cn (.type "tuple") b := fun cn b h => nomatch h
def ct_dict (_ : Str) : Option Bool := none
theorem ac_dict (_ : Ax K mg base) : ∀ cn b, ct_dict cn = some b → AskC K mg cn (.type "dict") b := fun cn b h => nomatch h
theorem fl_steps (z : Ax K mg base) : ∀ cn ∈ (["Ladder"] : List Str), Fld K mg cn "steps" := fun cn h => by
  have h := List.mem_singleton.mp h
  subst h; exact ⟨He.ga K "Ladder", g_Ladder z, cls_Ladder z, He.noat_ok (z.c.d.fact 37 rfl)⟩
theorem ec_BadItem (z : Ax K mg base) : ECal1 PySem.Challenge.pw_hammerkept_k00_whole_ladders w K mg "BadItem" "index" := ecal1_of (g_BadItem z) (z.c.x 0 rfl).1 (z.c.x 0 rfl).2 (g_super z) (by rfl) (by kernel_rfl) (by kernel_rfl) (by rfl) (by rfl) (by decide) (by decide) (fun _ _ _ _ _ _ _ _ _ _ => rfl) (fun _ _ _ _ _ _ _ _ _ _ => rfl) (by rfl) (by rfl) (by rfl) (by rfl) (by rfl) (by decide +kernel) (by rfl) (by rfl) (He.noat_ok (z.c.d.fact 45 rfl)) (fun _ => ⟨_, rfl⟩)
theorem ec_TooMany (z : Ax K mg base) : ECal1 PySem.Challenge.pw_hammerkept_k00_whole_ladders w K mg "TooMany" "limit" := ecal1_of (g_TooMany z) (z.c.x 1 rfl).1 (z.c.x 1 rfl).2 (g_super z) (by rfl) (by kernel_rfl) (by kernel_rfl) (by rfl) (by rfl) (by decide) (by decide) (fun _ _ _ _ _ _ _ _ _ _ => rfl) (fun _ _ _ _ _ _ _ _ _ _ => rfl) (by rfl) (by rfl) (by rfl) (by rfl) (by rfl) (by decide +kernel) (by rfl) (by rfl) (He.noat_ok (z.c.d.fact 46 rfl)) (fun _ => ⟨_, rfl⟩)
theorem nm_BadItem {X : Cx} (z : Ax X.K X.mg base) (hg : Gl X "BadItem" := by rfl) : Names X "BadItem" (.ref (He.ga X.K "BadItem")) := ⟨hg, by decide, .inl (g_BadItem z)⟩
def xt_BadItem (x : Str) : Option Bool := if x = "HammerError" then some false else if x = "BadItem" then some true else if x = "TooMany" then some false else none
theorem xt_BadItem_ok (z : Ax K mg base) : ∀ x b C, xt_BadItem x = some b → mg x = some (.ref C) → PySem.W.exmOne K (.ref C) (.ref (He.ga K "BadItem")) = some b := fun x b C h hm => by
  unfold xt_BadItem at h
  split at h
  · rename_i e
    cases h
    subst e
    rw [g_HammerError z] at hm
    cases hm
    exact He.exm_ok (z.c.d.fact 47 rfl)
  split at h
  · rename_i e
    cases h
    subst e
    rw [g_BadItem z] at hm
    cases hm
    exact He.exm_ok (z.c.d.fact 48 rfl)
  split at h
  · rename_i e
    cases h
    subst e
    rw [g_TooMany z] at hm
    cases hm
    exact He.exm_ok (z.c.d.fact 49 rfl)
  cases h
theorem nm_TooMany {X : Cx} (z : Ax X.K X.mg base) (hg : Gl X "TooMany" := by rfl) : Names X "TooMany" (.ref (He.ga X.K "TooMany")) := ⟨hg, by decide, .inl (g_TooMany z)⟩
def xt_TooMany (x : Str) : Option Bool := if x = "HammerError" then some false else if x = "BadItem" then some false else if x = "TooMany" then some true else none
theorem xt_TooMany_ok (z : Ax K mg base) : ∀ x b C, xt_TooMany x = some b → mg x = some (.ref C) → PySem.W.exmOne K (.ref C) (.ref (He.ga K "TooMany")) = some b := fun x b C h hm => by
  unfold xt_TooMany at h
  split at h
  · rename_i e
    cases h
    subst e
    rw [g_HammerError z] at hm
    cases hm
    exact He.exm_ok (z.c.d.fact 50 rfl)
  split at h
  · rename_i e
    cases h
    subst e
    rw [g_BadItem z] at hm
    cases hm
    exact He.exm_ok (z.c.d.fact 51 rfl)
  split at h
  · rename_i e
    cases h
    subst e
    rw [g_TooMany z] at hm
    cases hm
    exact He.exm_ok (z.c.d.fact 52 rfl)
  cases h
theorem xf_BadItem_index (z : Ax K mg base) : ∀ cn C, mg cn = some (.ref C) → cn ∈ (["BadItem"] : List Str) → XfC K C ∧ PySem.W.findIn K (.ref C) "index" = some none := fun cn C hm h => by
  simp only [List.mem_cons, List.not_mem_nil, or_false] at h
  rcases h with h
  · subst h; rw [g_BadItem z] at hm; cases hm; exact ⟨xfB_ok (z.e 4 rfl), He.noat_ok (z.c.d.fact 45 rfl)⟩
theorem xf_TooMany_limit (z : Ax K mg base) : ∀ cn C, mg cn = some (.ref C) → cn ∈ (["TooMany"] : List Str) → XfC K C ∧ PySem.W.findIn K (.ref C) "limit" = some none := fun cn C hm h => by
  simp only [List.mem_cons, List.not_mem_nil, or_false] at h
  rcases h with h
  · subst h; rw [g_TooMany z] at hm; cases hm; exact ⟨xfB_ok (z.e 5 rfl), He.noat_ok (z.c.d.fact 46 rfl)⟩
end
/-! ### is_whole -/
noncomputable def b_is_whole : SF := (sRet (fAnd (fIsi (isB "int") ct_int (fVar 0)) (fNot (fIsi (isB "bool") ct_bool (fVar 0)))))
theorem sc_is_whole : FnScope ["value"] ["value"] (defScope (top 5)) := ⟨rfl, rfl, rfl, by decide +kernel, rfl, by decide +kernel, by decide +kernel⟩
noncomputable def p_is_whole : List Val → Mem → R Val := phi 1 1 b_is_whole
theorem d_is_whole {w : World} {K : PySem.W.Frag} {mg : Str → Option Value} {base : Heap} (z : Ax K mg base) : BodyOk PySem.Challenge.pw_hammerkept_k00_whole_ladders w K mg base ["value"] "is_whole" (defScope (top 5)) (defBody (top 5)) 1 b_is_whole := fun f cdv A outer s H E hr tk hp => (fun nd => (vss_one (vs_ret (ve_and (ve_isiB (T := "int") (ct := ct_int) (hcs := ac_int z) (hgT := by rfl) (hmT := (g_int z)) (hv := by decide +kernel) (hg := by rfl) (hm := g_isinstance z) (he := (ve_var 0))) (ve_one (ve_not (ve_isiB (T := "bool") (ct := ct_bool) (hcs := ac_bool z) (hgT := by rfl) (hmT := (g_bool z)) (hv := by decide +kernel) (hg := by rfl) (hm := g_isinstance z) (he := (ve_var 0))))))))) sc_is_whole.nd
theorem fc_is_whole {w : World} {K : PySem.W.Frag} {mg : Str → Option Value} {base : Heap} (z : Ax K mg base) : FCal PySem.Challenge.pw_hammerkept_k00_whole_ladders w K mg base 2 "is_whole" p_is_whole := fcalD (z.c.d.def_ 0 rfl) (g_is_whole z) sc_is_whole (fun _ _ _ _ _ _ us hl => match us, hl with | [_], _ => rfl) (d_is_whole z)
/-! ### is_number -/
noncomputable def b_is_number : SF := (sRet (fAnd (fCall p_is_whole (fCons (fVar 0) fNil)) (fChain opLe opLe (fVar 1) (fVar 0) (fVar 2))))
theorem sc_is_number : FnScope ["value", "least", "most"] ["value", "least", "most"] (defScope (top 6)) := ⟨rfl, rfl, rfl, by decide +kernel, rfl, by decide +kernel, by decide +kernel⟩
noncomputable def p_is_number : List Val → Mem → R Val := phi 3 3 b_is_number
theorem d_is_number {w : World} {K : PySem.W.Frag} {mg : Str → Option Value} {base : Heap} (z : Ax K mg base) : BodyOk PySem.Challenge.pw_hammerkept_k00_whole_ladders w K mg base ["value", "least", "most"] "is_number" (defScope (top 6)) (defBody (top 6)) 2 b_is_number := fun f cdv A outer s H E hr tk hp => (fun nd => (vss_one (vs_ret (ve_and (ve_call (fc_is_whole z) hr (by decide) tk (va_cons (ve_var 0) va_nil) (by rfl)) (ve_one (ve_chain_le (ve_var 1) (ve_var 0) (ve_var 2))))))) sc_is_number.nd
theorem fc_is_number {w : World} {K : PySem.W.Frag} {mg : Str → Option Value} {base : Heap} (z : Ax K mg base) : FCal PySem.Challenge.pw_hammerkept_k00_whole_ladders w K mg base 3 "is_number" p_is_number := fcalD (z.c.d.def_ 1 rfl) (g_is_number z) sc_is_number (fun _ _ _ _ _ _ us hl => match us, hl with | [_, _, _], _ => rfl) (d_is_number z)
/-! ### is_row -/
noncomputable def b_is_row : SF := (sRet (fIsi (fun n => isB "list" n || isB "tuple" n) (fun _ => none) (fVar 0)))
theorem sc_is_row : FnScope ["value"] ["value"] (defScope (top 7)) := ⟨rfl, rfl, rfl, by decide +kernel, rfl, by decide +kernel, by decide +kernel⟩
noncomputable def p_is_row : List Val → Mem → R Val := phi 1 1 b_is_row
theorem d_is_row {w : World} {K : PySem.W.Frag} {mg : Str → Option Value} {base : Heap} (z : Ax K mg base) : BodyOk PySem.Challenge.pw_hammerkept_k00_whole_ladders w K mg base ["value"] "is_row" (defScope (top 7)) (defBody (top 7)) 1 b_is_row := fun f cdv A outer s H E hr tk hp => (fun nd => (vss_one (vs_ret (ve_isi2 (T := "list") (T' := "tuple") (hgT := by rfl) (hmT := (g_list z)) (hv := by decide +kernel) (hgT2 := by rfl) (hmT2 := (g_tuple z)) (hv2 := by decide +kernel) (hg := by rfl) (hm := g_isinstance z) (he := (ve_var 0)))))) sc_is_row.nd
theorem fc_is_row {w : World} {K : PySem.W.Frag} {mg : Str → Option Value} {base : Heap} (z : Ax K mg base) : FCal PySem.Challenge.pw_hammerkept_k00_whole_ladders w K mg base 2 "is_row" p_is_row := fcalD (z.c.d.def_ 2 rfl) (g_is_row z) sc_is_row (fun _ _ _ _ _ _ us hl => match us, hl with | [_], _ => rfl) (d_is_row z)
/-! ### frozen -/
noncomputable def b_frozen (φ : List Val → Mem → R Val) : SF := (sSeq (sIf (asT (fIsi (fun n => isB "list" n || isB "tuple" n) (fun _ => none) (fVar 0))) (sRet (fun e M => rbind ((fCons (fLc (iSeq (fVar 0)) (tName 1) bYes (fCall φ (fCons (fVar 1) fNil)) [1]) fNil) e M) bTup)) sNil)
  (sRet (fVar 0)))
theorem sc_frozen : FnScope ["value", "part"] ["value"] (defScope (top 8)) := ⟨rfl, rfl, rfl, by decide +kernel, rfl, by decide +kernel, by decide +kernel⟩
noncomputable def p_frozen : Nat → List Val → Mem → R Val
  | 0 => fun _ _ => .bad
  | n + 1 => phi 2 1 (b_frozen (p_frozen n))
theorem fc_frozen {w : World} {K : PySem.W.Frag} {mg : Str → Option Value} {base : Heap} (z : Ax K mg base) : ∀ n, FCal PySem.Challenge.pw_hammerkept_k00_whole_ladders w K mg base (n + 1) "frozen" (p_frozen n)
  | 0 => fcal_bad (z.c.d.def_ 3 rfl) (g_frozen z) sc_frozen (fun _ _ _ _ _ _ us hl => match us, hl with | [_], _ => rfl)
  | n + 1 => (fun φ (ih : FCal PySem.Challenge.pw_hammerkept_k00_whole_ladders w K mg base (n + 1) "frozen" φ) => show FCal PySem.Challenge.pw_hammerkept_k00_whole_ladders w K mg base (n + 1 + 1) "frozen" (phi 2 1 (b_frozen φ)) from fcalD (z.c.d.def_ 3 rfl) (g_frozen z) sc_frozen (fun _ _ _ _ _ _ us hl => match us, hl with | [_], _ => rfl) (fun f cdv A outer s H E hr tk hp => (fun nd => (vss_cons (vs_if (vt_val (ve_isi2 (T := "list") (T' := "tuple") (hgT := by rfl) (hmT := (g_list z)) (hv := by decide +kernel) (hgT2 := by rfl) (hmT2 := (g_tuple z)) (hv2 := by decide +kernel) (hg := by rfl) (hm := g_isinstance z) (he := (ve_var 0)))) (vss_one (vs_ret (ve_tup1 (by rfl) (g_tuple z) (va_cons (ve_lc (own := [("part", 1)]) (vi_seq (ve_var 0)) hr.hd (by rfl) nd (blk_of (by kernel_rfl)) (by decide) (fun _ _ _ _ _ => (vg_name 1 nd)) (fun _ _ _ _ _ => vts_nil) (fun _ _ _ _ _ => (fun tk => (ve_call ih hr (Nat.le_refl _) tk (va_cons (ve_var 1) va_nil) (by rfl))) takes_W0)) va_nil)))) vss_nil) (vss_one (vs_ret (ve_var 0))))) sc_frozen.nd)) _ (fc_frozen z n)
/-! ### is_step -/
noncomputable def b_is_step : SF := (sSeq (sIf (bOr (bNot (asT (fCall p_is_row (fCons (fVar 0) fNil)))) (asB (fOp opNe (fun e M => rbind ((fCons (fVar 0) fNil) e M) bLen) (fC (.int 2))))) (sRet (fC (.bl false))) sNil)
  (sRet (fAnd (fCall p_is_number (fCons (fOp opIx (fVar 0) (fC (.int 0))) (fCons (fC (.int 0)) (fCons (fC (.int 99999)) fNil)))) (fCall p_is_number (fCons (fOp opIx (fVar 0) (fC (.int 1))) (fCons (fC (.int 1)) (fCons (fC (.int 99999)) fNil)))))))
theorem sc_is_step : FnScope ["value"] ["value"] (defScope (top 13)) := ⟨rfl, rfl, rfl, by decide +kernel, rfl, by decide +kernel, by decide +kernel⟩
noncomputable def p_is_step : List Val → Mem → R Val := phi 1 1 b_is_step
theorem d_is_step {w : World} {K : PySem.W.Frag} {mg : Str → Option Value} {base : Heap} (z : Ax K mg base) : BodyOk PySem.Challenge.pw_hammerkept_k00_whole_ladders w K mg base ["value"] "is_step" (defScope (top 13)) (defBody (top 13)) 3 b_is_step := fun f cdv A outer s H E hr tk hp => (fun nd => (vss_cons (vs_if (vt_w (vw_or (vt_not (vt_val (ve_call (fc_is_row z) hr (by decide) tk (va_cons (ve_var 0) va_nil) (by rfl)))) (vw_or1 (vt_vc (vc_ne (Rm.of hr) (ve_len (by rfl) (g_len z) (va_cons (ve_var 0) va_nil)) ve_int))))) (vss_one (vs_ret ve_bl)) vss_nil) (vss_one (vs_ret (ve_and (ve_call (fc_is_number z) hr (by decide) tk (va_cons (ve_sub1 (ve_var 0) ve_int) (va_cons ve_int (va_cons (ve_gi (g_MOST_BID z)) va_nil))) (by rfl)) (ve_one (ve_call (fc_is_number z) hr (by decide) tk (va_cons (ve_sub1 (ve_var 0) ve_int) (va_cons ve_int (va_cons (ve_gi (g_MOST_BID z)) va_nil))) (by rfl)))))))) sc_is_step.nd
theorem fc_is_step {w : World} {K : PySem.W.Frag} {mg : Str → Option Value} {base : Heap} (z : Ax K mg base) : FCal PySem.Challenge.pw_hammerkept_k00_whole_ladders w K mg base 4 "is_step" p_is_step := fcalD (z.c.d.def_ 5 rfl) (g_is_step z) sc_is_step (fun _ _ _ _ _ _ us hl => match us, hl with | [_], _ => rfl) (d_is_step z)
noncomputable def t_item : Tab := [("is_step", p_is_step)]
theorem tc_item {w : World} {K : PySem.W.Frag} {mg : Str → Option Value} {base : Heap} (z : Ax K mg base) : ∀ x φ, tabOf t_item x = some φ → FCal PySem.Challenge.pw_hammerkept_k00_whole_ladders w K mg base 4 x φ := fun x φ h => by
  unfold tabOf t_item at h
  rw [List.lookup_cons] at h
  split at h
  · rename_i e
    cases h
    rw [beq_iff_eq.mp e]
    exact (fc_is_step z).mono (by decide)
  cases h
/-! ### want_row -/
noncomputable def b_want_row : SF := (sSeq (sIf (bNot (asT (fCall p_is_row (fCons (fVar 0) fNil)))) (sRaise1 "BadItem" "index" (fC .non)) sNil)
  (sSeq (sFor (iEnumF (fCons (fVar 0) fNil)) (tTup 2 (tCons2 (tName 3) (tCons2 (tName 4) tNils))) (sIf (bNot (asT (fCallL 1 t_item (fCons (fVar 4) fNil)))) (sRaise1 "BadItem" "index" (fVar 3)) sNil))
  (sSeq (sIf (asB (fOp opGt (fun e M => rbind ((fCons (fVar 0) fNil) e M) bLen) (fVar 2))) (sRaise1 "TooMany" "limit" (fVar 2)) sNil)
  (sRet (fCall (p_frozen 3) (fCons (fVar 0) fNil))))))
theorem sc_want_row : FnScope ["value", "is_item", "most", "index", "item"] ["value", "is_item", "most"] (defScope (top 9)) := ⟨rfl, rfl, rfl, by decide +kernel, rfl, by decide +kernel, by decide +kernel⟩
noncomputable def p_want_row : List Val → Mem → R Val := phi 5 3 b_want_row
theorem d_want_row {w : World} {K : PySem.W.Frag} {mg : Str → Option Value} {base : Heap} (z : Ax K mg base) : BodyOk PySem.Challenge.pw_hammerkept_k00_whole_ladders w K mg base ["value", "is_item", "most", "index", "item"] "want_row" (defScope (top 9)) (defBody (top 9)) 4 b_want_row := fun f cdv A outer s H E hr tk hp => (fun nd => (vss_cons (vs_if (vt_not (vt_val (ve_call (fc_is_row z) hr (by decide) tk (va_cons (ve_var 0) va_nil) (by rfl)))) (vss_one (vs_raise1 (ec_BadItem z) hr (by rfl) tk (by rfl) ve_non)) vss_nil) (vss_cons (vs_for hp (by rfl) (vi_enum (by rfl) (g_enumerate z) (va_cons (ve_var 0) va_nil)) (vg_tup (by rfl) (vgs_cons (vg_name 3 nd) (vgs_cons (vg_name 4 nd) vgs_nil))) (vss_one (vs_if (vt_not (vt_val (ve_callL 1 (T := t_item) (tc_item z) hr (by decide) tk (va_cons (ve_var 4) va_nil)))) (vss_one (vs_raise1 (ec_BadItem z) hr (by rfl) tk (by rfl) (ve_var 3))) vss_nil))) (vss_cons (vs_if (vt_vc (vc_gt (ve_len (by rfl) (g_len z) (va_cons (ve_var 0) va_nil)) (ve_var 2))) (vss_one (vs_raise1 (ec_TooMany z) hr (by rfl) tk (by rfl) (ve_var 2))) vss_nil) (vss_one (vs_ret (ve_call (fc_frozen z 3) hr (by decide) tk (va_cons (ve_var 0) va_nil) (by rfl)))))))) sc_want_row.nd
theorem fc_want_row {w : World} {K : PySem.W.Frag} {mg : Str → Option Value} {base : Heap} (z : Ax K mg base) : FCal PySem.Challenge.pw_hammerkept_k00_whole_ladders w K mg base 5 "want_row" p_want_row := fcalD (z.c.d.def_ 4 rfl) (g_want_row z) sc_want_row (fun _ _ _ _ _ _ us hl => match us, hl with | [_, _, _], _ => rfl) (d_want_row z)
/-! ### _law_taken -/
noncomputable def b__law_taken : SF := (sSeq (sIf (asB (fOp opGt (fOp opIx (fVar 0) (fC (.int 3))) (fC (.int 0)))) (sSeq (sSet 3 (fOp opMod (fun e M => rbind ((fCons (fOp opIx (fVar 0) (fC (.int 3))) fNil) e M) bInt) (fVar 1)))
  (sSeq (sSetL (fVar 0) (fC (.int 3)) (fOp opFdiv (fOp opIx (fVar 0) (fC (.int 3))) (fVar 1)))
  (sRet (fVar 3)))) sNil)
  (sSeq (sSetL (fVar 0) (fC (.int 1)) (fOp opAdd (fOp opIx (fVar 0) (fC (.int 1))) (fC (.int 1))))
  (sSeq (sIf (asB (fOp opGt (fOp opIx (fVar 0) (fC (.int 1))) (fun e M => rbind ((fCons (fOp opIx (fVar 0) (fC (.int 0))) fNil) e M) bLen))) (sSeq (sSetL (fVar 0) (fC (.int 2)) (fOp opMod (fun e M => rbind ((fCons (fOp opAdd (fOp opMul (fOp opIx (fVar 0) (fC (.int 2))) (fC (.int 48271))) (fC (.int 11))) fNil) e M) bInt) (fC (.int 2147483647))))
  (sRet (fOp opMod (fun e M => rbind ((fCons (fOp opFdiv (fOp opIx (fVar 0) (fC (.int 2))) (fC (.int 7))) fNil) e M) bInt) (fVar 1)))) sNil)
  (sSeq (sSet 2 (fOp opIx (fOp opIx (fVar 0) (fC (.int 0))) (fOp opSub (fOp opIx (fVar 0) (fC (.int 1))) (fC (.int 1)))))
  (sSeq (sSetL (fVar 0) (fC (.int 2)) (fOp opMod (fun e M => rbind ((fCons (fOp opAdd (fOp opAdd (fOp opMul (fOp opIx (fVar 0) (fC (.int 2))) (fC (.int 48271))) (fVar 2)) (fC (.int 11))) fNil) e M) bInt) (fC (.int 2147483647))))
  (sSeq (sIf (asB (fOp opGe (fVar 2) (fOp opPow (fC (.int 10)) (fC (.int 18))))) (sSetL (fVar 0) (fC (.int 3)) (fOp opFdiv (fVar 2) (fVar 1))) sNil)
  (sRet (fOp opMod (fun e M => rbind ((fCons (fVar 2) fNil) e M) bInt) (fVar 1)))))))))
theorem sc__law_taken : FnScope ["row", "many", "cell", "found"] ["row", "many"] (defScope (top 16)) := ⟨rfl, rfl, rfl, by decide +kernel, rfl, by decide +kernel, by decide +kernel⟩
noncomputable def p__law_taken : List Val → Mem → R Val := phi 4 2 b__law_taken
theorem d__law_taken {w : World} {K : PySem.W.Frag} {mg : Str → Option Value} {base : Heap} (z : Ax K mg base) : BodyOk PySem.Challenge.pw_hammerkept_k00_whole_ladders w K mg base ["row", "many", "cell", "found"] "_law_taken" (defScope (top 16)) (defBody (top 16)) 1 b__law_taken := fun f cdv A outer s H E hr tk hp => (fun nd => (vss_cons (vs_if (vt_vc (vc_gt (ve_sub1 (ve_var 0) ve_int) ve_int)) (vss_cons (vs_set 3 (ve_mod (ve_int1 (by rfl) (g_int z) (va_cons (ve_sub1 (ve_var 0) ve_int) va_nil)) (ve_var 1)) nd) (vss_cons (vs_setL (ve_fdiv (ve_sub1 (ve_var 0) ve_int) (ve_var 1)) (ve_var 0) ve_int) (vss_one (vs_ret (ve_var 3))))) vss_nil) (vss_cons (vs_setL (ve_add (ve_sub1 (ve_var 0) ve_int) ve_int) (ve_var 0) ve_int) (vss_cons (vs_if (vt_vc (vc_gt (ve_sub1 (ve_var 0) ve_int) (ve_len (by rfl) (g_len z) (va_cons (ve_sub1 (ve_var 0) ve_int) va_nil)))) (vss_cons (vs_setL (ve_mod (ve_int1 (by rfl) (g_int z) (va_cons (ve_add (ve_mul (ve_sub1 (ve_var 0) ve_int) ve_int) ve_int) va_nil)) ve_int) (ve_var 0) ve_int) (vss_one (vs_ret (ve_mod (ve_int1 (by rfl) (g_int z) (va_cons (ve_fdiv (ve_sub1 (ve_var 0) ve_int) ve_int) va_nil)) (ve_var 1))))) vss_nil) (vss_cons (vs_set 2 (ve_sub1 (ve_sub1 (ve_var 0) ve_int) (ve_sub (ve_sub1 (ve_var 0) ve_int) ve_int)) nd) (vss_cons (vs_setL (ve_mod (ve_int1 (by rfl) (g_int z) (va_cons (ve_add (ve_add (ve_mul (ve_sub1 (ve_var 0) ve_int) ve_int) (ve_var 2)) ve_int) va_nil)) ve_int) (ve_var 0) ve_int) (vss_cons (vs_if (vt_vc (vc_ge (ve_var 2) (ve_pow ve_int ve_int))) (vss_one (vs_setL (ve_fdiv (ve_var 2) (ve_var 1)) (ve_var 0) ve_int)) vss_nil) (vss_one (vs_ret (ve_mod (ve_int1 (by rfl) (g_int z) (va_cons (ve_var 2) va_nil)) (ve_var 1))))))))))) sc__law_taken.nd
theorem fc__law_taken {w : World} {K : PySem.W.Frag} {mg : Str → Option Value} {base : Heap} (z : Ax K mg base) : FCal PySem.Challenge.pw_hammerkept_k00_whole_ladders w K mg base 2 "_law_taken" p__law_taken := fcalD (z.c.d.def_ 6 rfl) (g__law_taken z) sc__law_taken (fun _ _ _ _ _ _ us hl => match us, hl with | [_, _], _ => rfl) (d__law_taken z)
/-! ### _law_pick -/
noncomputable def b__law_pick : SF := (sRet (fOp opIx (fVar 1) (fCall p__law_taken (fCons (fVar 0) (fCons (fun e M => rbind ((fCons (fVar 1) fNil) e M) bLen) fNil)))))
theorem sc__law_pick : FnScope ["row", "kinds"] ["row", "kinds"] (defScope (top 17)) := ⟨rfl, rfl, rfl, by decide +kernel, rfl, by decide +kernel, by decide +kernel⟩
noncomputable def p__law_pick : List Val → Mem → R Val := phi 2 2 b__law_pick
theorem d__law_pick {w : World} {K : PySem.W.Frag} {mg : Str → Option Value} {base : Heap} (z : Ax K mg base) : BodyOk PySem.Challenge.pw_hammerkept_k00_whole_ladders w K mg base ["row", "kinds"] "_law_pick" (defScope (top 17)) (defBody (top 17)) 2 b__law_pick := fun f cdv A outer s H E hr tk hp => (fun nd => (vss_one (vs_ret (ve_sub1 (ve_var 1) (ve_call (fc__law_taken z) hr (by decide) tk (va_cons (ve_var 0) (va_cons (ve_len (by rfl) (g_len z) (va_cons (ve_var 1) va_nil)) va_nil)) (by rfl)))))) sc__law_pick.nd
theorem fc__law_pick {w : World} {K : PySem.W.Frag} {mg : Str → Option Value} {base : Heap} (z : Ax K mg base) : FCal PySem.Challenge.pw_hammerkept_k00_whole_ladders w K mg base 3 "_law_pick" p__law_pick := fcalD (z.c.d.def_ 7 rfl) (g__law_pick z) sc__law_pick (fun _ _ _ _ _ _ us hl => match us, hl with | [_, _], _ => rfl) (d__law_pick z)
/-! ### _law_alike -/
noncomputable def b__law_alike (φ : List Val → Mem → R Val) : SF := (sSeq (sIf (asT (fIsi (fun n => isB "tuple" n || isB "list" n) (fun _ => none) (fVar 1))) (sSeq (sIf (bOr (bNot (asT (fIsi (fun n => isB "tuple" n || isB "list" n) (fun _ => none) (fVar 0)))) (asB (fOp opNe (fIsi (isB "list") ct_list (fVar 0)) (fIsi (isB "list") ct_list (fVar 1))))) (sRet (fC (.bl false))) sNil)
  (sSeq (sIf (asB (fOp opNe (fun e M => rbind ((fCons (fVar 0) fNil) e M) bLen) (fun e M => rbind ((fCons (fVar 1) fNil) e M) bLen))) (sRet (fC (.bl false))) sNil)
  (sRet (fOp opEq (fLc (iRng1' (fCons (fun e M => rbind ((fCons (fVar 1) fNil) e M) bLen) fNil)) (tName 2) (bNot (asT (fCall φ (fCons (fOp opIx (fVar 0) (fVar 2)) (fCons (fOp opIx (fVar 1) (fVar 2)) fNil))))) (fVar 2) [2]) (fLst fNil))))) sNil)
  (sSeq (sIf (bOr (asB (fIsN false (fVar 1))) (asT (fIsi (isB "str") ct_str (fVar 1)))) (sRet (fAnd (fOp opEq (fVar 0) (fVar 1)) (fOp opEq (fIsi (isB "str") ct_str (fVar 0)) (fIsi (isB "str") ct_str (fVar 1))))) sNil)
  (sRet (fAnd (fIsi (isB "int") ct_int (fVar 0)) (fAnd (fOp opEq (fIsi (isB "bool") ct_bool (fVar 0)) (fIsi (isB "bool") ct_bool (fVar 1))) (fOp opEq (fVar 0) (fVar 1)))))))
theorem sc__law_alike : FnScope ["found", "due", "k"] ["found", "due"] (defScope (top 18)) := ⟨rfl, rfl, rfl, by decide +kernel, rfl, by decide +kernel, by decide +kernel⟩
noncomputable def p__law_alike : Nat → List Val → Mem → R Val
  | 0 => fun _ _ => .bad
  | n + 1 => phi 3 2 (b__law_alike (p__law_alike n))
theorem fc__law_alike {w : World} {K : PySem.W.Frag} {mg : Str → Option Value} {base : Heap} (z : Ax K mg base) : ∀ n, FCal PySem.Challenge.pw_hammerkept_k00_whole_ladders w K mg base (n + 1) "_law_alike" (p__law_alike n)
  | 0 => fcal_bad (z.c.d.def_ 8 rfl) (g__law_alike z) sc__law_alike (fun _ _ _ _ _ _ us hl => match us, hl with | [_, _], _ => rfl)
  | n + 1 => (fun φ (ih : FCal PySem.Challenge.pw_hammerkept_k00_whole_ladders w K mg base (n + 1) "_law_alike" φ) => show FCal PySem.Challenge.pw_hammerkept_k00_whole_ladders w K mg base (n + 1 + 1) "_law_alike" (phi 3 2 (b__law_alike φ)) from fcalD (z.c.d.def_ 8 rfl) (g__law_alike z) sc__law_alike (fun _ _ _ _ _ _ us hl => match us, hl with | [_, _], _ => rfl) (fun f cdv A outer s H E hr tk hp => (fun nd => (vss_cons (vs_if (vt_val (ve_isi2 (T := "tuple") (T' := "list") (hgT := by rfl) (hmT := (g_tuple z)) (hv := by decide +kernel) (hgT2 := by rfl) (hmT2 := (g_list z)) (hv2 := by decide +kernel) (hg := by rfl) (hm := g_isinstance z) (he := (ve_var 1)))) (vss_cons (vs_if (vt_w (vw_or (vt_not (vt_val (ve_isi2 (T := "tuple") (T' := "list") (hgT := by rfl) (hmT := (g_tuple z)) (hv := by decide +kernel) (hgT2 := by rfl) (hmT2 := (g_list z)) (hv2 := by decide +kernel) (hg := by rfl) (hm := g_isinstance z) (he := (ve_var 0))))) (vw_or1 (vt_vc (vc_ne (Rm.of hr) (ve_isiB (T := "list") (ct := ct_list) (hcs := ac_list z) (hgT := by rfl) (hmT := (g_list z)) (hv := by decide +kernel) (hg := by rfl) (hm := g_isinstance z) (he := (ve_var 0))) (ve_isiB (T := "list") (ct := ct_list) (hcs := ac_list z) (hgT := by rfl) (hmT := (g_list z)) (hv := by decide +kernel) (hg := by rfl) (hm := g_isinstance z) (he := (ve_var 1)))))))) (vss_one (vs_ret ve_bl)) vss_nil) (vss_cons (vs_if (vt_vc (vc_ne (Rm.of hr) (ve_len (by rfl) (g_len z) (va_cons (ve_var 0) va_nil)) (ve_len (by rfl) (g_len z) (va_cons (ve_var 1) va_nil)))) (vss_one (vs_ret ve_bl)) vss_nil) (vss_one (vs_ret (ve_vc (vc_eq (Rm.of hr) (ve_lc (own := [("k", 2)]) (vi_range1 (by rfl) (g_range z) (va_cons (ve_len (by rfl) (g_len z) (va_cons (ve_var 1) va_nil)) va_nil)) hr.hd (by rfl) nd (blk_of (by kernel_rfl)) (by decide) (fun _ _ _ _ _ => (vg_name 2 nd)) (fun _ _ _ _ _ => (fun tk => (vts_one (vt_not (vt_val (ve_call ih hr (Nat.le_refl _) tk (va_cons (ve_sub1 (ve_var 0) (ve_var 2)) (va_cons (ve_sub1 (ve_var 1) (ve_var 2)) va_nil)) (by rfl)))))) takes_W0) (fun _ _ _ _ _ => (ve_var 2))) (ve_lst va_nil))))))) vss_nil) (vss_cons (vs_if (vt_w (vw_or (vt_vc (vc_isN (ve_var 1))) (vw_or1 (vt_val (ve_isiB (T := "str") (ct := ct_str) (hcs := ac_str z) (hgT := by rfl) (hmT := (g_str z)) (hv := by decide +kernel) (hg := by rfl) (hm := g_isinstance z) (he := (ve_var 1))))))) (vss_one (vs_ret (ve_and (ve_vc (vc_eq (Rm.of hr) (ve_var 0) (ve_var 1))) (ve_one (ve_vc (vc_eq (Rm.of hr) (ve_isiB (T := "str") (ct := ct_str) (hcs := ac_str z) (hgT := by rfl) (hmT := (g_str z)) (hv := by decide +kernel) (hg := by rfl) (hm := g_isinstance z) (he := (ve_var 0))) (ve_isiB (T := "str") (ct := ct_str) (hcs := ac_str z) (hgT := by rfl) (hmT := (g_str z)) (hv := by decide +kernel) (hg := by rfl) (hm := g_isinstance z) (he := (ve_var 1))))))))) vss_nil) (vss_one (vs_ret (ve_and (ve_isiB (T := "int") (ct := ct_int) (hcs := ac_int z) (hgT := by rfl) (hmT := (g_int z)) (hv := by decide +kernel) (hg := by rfl) (hm := g_isinstance z) (he := (ve_var 0))) (ve_and (ve_vc (vc_eq (Rm.of hr) (ve_isiB (T := "bool") (ct := ct_bool) (hcs := ac_bool z) (hgT := by rfl) (hmT := (g_bool z)) (hv := by decide +kernel) (hg := by rfl) (hm := g_isinstance z) (he := (ve_var 0))) (ve_isiB (T := "bool") (ct := ct_bool) (hcs := ac_bool z) (hgT := by rfl) (hmT := (g_bool z)) (hv := by decide +kernel) (hg := by rfl) (hm := g_isinstance z) (he := (ve_var 1))))) (ve_one (ve_vc (vc_eq (Rm.of hr) (ve_var 0) (ve_var 1))))))))))) sc__law_alike.nd)) _ (fc__law_alike z n)
/-! ### _law_mixed -/
noncomputable def b__law_mixed : SF := (sSeq (sIf (asB (fOp opEq (fCall p__law_taken (fCons (fVar 0) (fCons (fC (.int 2)) fNil))) (fC (.int 0)))) (sRet (fun e M => rbind ((fCons (fVar 1) fNil) e M) (bList true))) sNil)
  (sRet (fun e M => rbind ((fCons (fVar 1) fNil) e M) bTup)))
theorem sc__law_mixed : FnScope ["row", "value"] ["row", "value"] (defScope (top 19)) := ⟨rfl, rfl, rfl, by decide +kernel, rfl, by decide +kernel, by decide +kernel⟩
noncomputable def p__law_mixed : List Val → Mem → R Val := phi 2 2 b__law_mixed
theorem d__law_mixed {w : World} {K : PySem.W.Frag} {mg : Str → Option Value} {base : Heap} (z : Ax K mg base) : BodyOk PySem.Challenge.pw_hammerkept_k00_whole_ladders w K mg base ["row", "value"] "_law_mixed" (defScope (top 19)) (defBody (top 19)) 2 b__law_mixed := fun f cdv A outer s H E hr tk hp => (fun nd => (vss_cons (vs_if (vt_vc (vc_eq (Rm.of hr) (ve_call (fc__law_taken z) hr (by decide) tk (va_cons (ve_var 0) (va_cons ve_int va_nil)) (by rfl)) ve_int)) (vss_one (vs_ret (ve_list1 true (by rfl) (g_list z) (va_cons (ve_var 1) va_nil)))) vss_nil) (vss_one (vs_ret (ve_tup1 (by rfl) (g_tuple z) (va_cons (ve_var 1) va_nil)))))) sc__law_mixed.nd
theorem fc__law_mixed {w : World} {K : PySem.W.Frag} {mg : Str → Option Value} {base : Heap} (z : Ax K mg base) : FCal PySem.Challenge.pw_hammerkept_k00_whole_ladders w K mg base 3 "_law_mixed" p__law_mixed := fcalD (z.c.d.def_ 9 rfl) (g__law_mixed z) sc__law_mixed (fun _ _ _ _ _ _ us hl => match us, hl with | [_, _], _ => rfl) (d__law_mixed z)
/-! ### _law_truth -/
noncomputable def b__law_truth : SF := (sRet (fAnd (fIsi (isB "bool") ct_bool (fVar 0)) (fOp opEq (fVar 0) (fVar 1))))
theorem sc__law_truth : FnScope ["found", "due"] ["found", "due"] (defScope (top 20)) := ⟨rfl, rfl, rfl, by decide +kernel, rfl, by decide +kernel, by decide +kernel⟩
noncomputable def p__law_truth : List Val → Mem → R Val := phi 2 2 b__law_truth
theorem d__law_truth {w : World} {K : PySem.W.Frag} {mg : Str → Option Value} {base : Heap} (z : Ax K mg base) : BodyOk PySem.Challenge.pw_hammerkept_k00_whole_ladders w K mg base ["found", "due"] "_law_truth" (defScope (top 20)) (defBody (top 20)) 1 b__law_truth := fun f cdv A outer s H E hr tk hp => (fun nd => (vss_one (vs_ret (ve_and (ve_isiB (T := "bool") (ct := ct_bool) (hcs := ac_bool z) (hgT := by rfl) (hmT := (g_bool z)) (hv := by decide +kernel) (hg := by rfl) (hm := g_isinstance z) (he := (ve_var 0))) (ve_one (ve_vc (vc_eq (Rm.of hr) (ve_var 0) (ve_var 1)))))))) sc__law_truth.nd
theorem fc__law_truth {w : World} {K : PySem.W.Frag} {mg : Str → Option Value} {base : Heap} (z : Ax K mg base) : FCal PySem.Challenge.pw_hammerkept_k00_whole_ladders w K mg base 2 "_law_truth" p__law_truth := fcalD (z.c.d.def_ 10 rfl) (g__law_truth z) sc__law_truth (fun _ _ _ _ _ _ us hl => match us, hl with | [_, _], _ => rfl) (d__law_truth z)
/-! ### _law_whole -/
noncomputable def b__law_whole : SF := (sRet (fAnd (fIsi (isB "int") ct_int (fVar 0)) (fNot (fIsi (isB "bool") ct_bool (fVar 0)))))
theorem sc__law_whole : FnScope ["value"] ["value"] (defScope (top 21)) := ⟨rfl, rfl, rfl, by decide +kernel, rfl, by decide +kernel, by decide +kernel⟩
noncomputable def p__law_whole : List Val → Mem → R Val := phi 1 1 b__law_whole
theorem d__law_whole {w : World} {K : PySem.W.Frag} {mg : Str → Option Value} {base : Heap} (z : Ax K mg base) : BodyOk PySem.Challenge.pw_hammerkept_k00_whole_ladders w K mg base ["value"] "_law_whole" (defScope (top 21)) (defBody (top 21)) 1 b__law_whole := fun f cdv A outer s H E hr tk hp => (fun nd => (vss_one (vs_ret (ve_and (ve_isiB (T := "int") (ct := ct_int) (hcs := ac_int z) (hgT := by rfl) (hmT := (g_int z)) (hv := by decide +kernel) (hg := by rfl) (hm := g_isinstance z) (he := (ve_var 0))) (ve_one (ve_not (ve_isiB (T := "bool") (ct := ct_bool) (hcs := ac_bool z) (hgT := by rfl) (hmT := (g_bool z)) (hv := by decide +kernel) (hg := by rfl) (hm := g_isinstance z) (he := (ve_var 0))))))))) sc__law_whole.nd
theorem fc__law_whole {w : World} {K : PySem.W.Frag} {mg : Str → Option Value} {base : Heap} (z : Ax K mg base) : FCal PySem.Challenge.pw_hammerkept_k00_whole_ladders w K mg base 2 "_law_whole" p__law_whole := fcalD (z.c.d.def_ 11 rfl) (g__law_whole z) sc__law_whole (fun _ _ _ _ _ _ us hl => match us, hl with | [_], _ => rfl) (d__law_whole z)
/-! ### _law_refused_row -/
noncomputable def b__law_refused_row : SF := (sRet (fAnd (fOp opEq (fVar 0) (fVar 1)) (fOp opEq (fCall p__law_whole (fCons (fOp opIx (fVar 0) (fC (.int 1))) fNil)) (fCall p__law_whole (fCons (fOp opIx (fVar 1) (fC (.int 1))) fNil)))))
theorem sc__law_refused_row : FnScope ["call", "due"] ["call", "due"] (defScope (top 22)) := ⟨rfl, rfl, rfl, by decide +kernel, rfl, by decide +kernel, by decide +kernel⟩
noncomputable def p__law_refused_row : List Val → Mem → R Val := phi 2 2 b__law_refused_row
theorem d__law_refused_row {w : World} {K : PySem.W.Frag} {mg : Str → Option Value} {base : Heap} (z : Ax K mg base) : BodyOk PySem.Challenge.pw_hammerkept_k00_whole_ladders w K mg base ["call", "due"] "_law_refused_row" (defScope (top 22)) (defBody (top 22)) 2 b__law_refused_row := fun f cdv A outer s H E hr tk hp => (fun nd => (vss_one (vs_ret (ve_and (ve_vc (vc_eq (Rm.of hr) (ve_var 0) (ve_var 1))) (ve_one (ve_vc (vc_eq (Rm.of hr) (ve_call (fc__law_whole z) hr (by decide) tk (va_cons (ve_sub1 (ve_var 0) ve_int) va_nil) (by rfl)) (ve_call (fc__law_whole z) hr (by decide) tk (va_cons (ve_sub1 (ve_var 1) ve_int) va_nil) (by rfl))))))))) sc__law_refused_row.nd
theorem fc__law_refused_row {w : World} {K : PySem.W.Frag} {mg : Str → Option Value} {base : Heap} (z : Ax K mg base) : FCal PySem.Challenge.pw_hammerkept_k00_whole_ladders w K mg base 3 "_law_refused_row" p__law_refused_row := fcalD (z.c.d.def_ 12 rfl) (g__law_refused_row z) sc__law_refused_row (fun _ _ _ _ _ _ us hl => match us, hl with | [_, _], _ => rfl) (d__law_refused_row z)
/-! ### _law_steps -/
noncomputable def b__law_steps : SF := (sSeq (sPar 1 2 (fCons (fObj fNil) (fCons (fC (.int 0)) fNil)))
  (sSeq (sFor (iRng1' (fCons (fOp opAdd (fC (.int 1)) (fCall p__law_taken (fCons (fVar 0) (fCons (fC (.int 3)) fNil)))) fNil)) (tName 3) (sSeq (sSet 4 (fOp opAdd (fC (.int 1)) (fCall p__law_taken (fCons (fVar 0) (fCons (fC (.int 4)) fNil)))))
  (sSeq (sExpr (fAppend (fVar 1) (fTup (fCons (fVar 2) (fCons (fVar 4) fNil)))))
  (sSet 2 (fOp opAdd (fVar 2) (fOp opMul (fVar 4) (fOp opAdd (fC (.int 1)) (fCall p__law_taken (fCons (fVar 0) (fCons (fC (.int 4)) fNil))))))))))
  (sRet (fun e M => rbind ((fCons (fVar 1) fNil) e M) bTup))))
theorem sc__law_steps : FnScope ["row", "steps", "begin", "k", "step"] ["row"] (defScope (top 23)) := ⟨rfl, rfl, rfl, by decide +kernel, rfl, by decide +kernel, by decide +kernel⟩
noncomputable def p__law_steps : List Val → Mem → R Val := phi 5 1 b__law_steps
theorem d__law_steps {w : World} {K : PySem.W.Frag} {mg : Str → Option Value} {base : Heap} (z : Ax K mg base) : BodyOk PySem.Challenge.pw_hammerkept_k00_whole_ladders w K mg base ["row", "steps", "begin", "k", "step"] "_law_steps" (defScope (top 23)) (defBody (top 23)) 2 b__law_steps := fun f cdv A outer s H E hr tk hp => (fun nd => (vss_cons (vs_par 1 2 (va_cons (ve_obj va_nil) (va_cons ve_int va_nil)) (by rfl) nd) (vss_cons (vs_for hp (by rfl) (vi_range1 (by rfl) (g_range z) (va_cons (ve_add ve_int (ve_call (fc__law_taken z) hr (by decide) tk (va_cons (ve_var 0) (va_cons ve_int va_nil)) (by rfl))) va_nil)) (vg_name 3 nd) (vss_cons (vs_set 4 (ve_add ve_int (ve_call (fc__law_taken z) hr (by decide) tk (va_cons (ve_var 0) (va_cons ve_int va_nil)) (by rfl))) nd) (vss_cons (vs_expr (ve_append (ve_var 1) (ve_tup (va_cons (ve_var 2) (va_cons (ve_var 4) va_nil))))) (vss_one (vs_set 2 (ve_add (ve_var 2) (ve_mul (ve_var 4) (ve_add ve_int (ve_call (fc__law_taken z) hr (by decide) tk (va_cons (ve_var 0) (va_cons ve_int va_nil)) (by rfl))))) nd))))) (vss_one (vs_ret (ve_tup1 (by rfl) (g_tuple z) (va_cons (ve_var 1) va_nil))))))) sc__law_steps.nd
theorem fc__law_steps {w : World} {K : PySem.W.Frag} {mg : Str → Option Value} {base : Heap} (z : Ax K mg base) : FCal PySem.Challenge.pw_hammerkept_k00_whole_ladders w K mg base 3 "_law_steps" p__law_steps := fcalD (z.c.d.def_ 13 rfl) (g__law_steps z) sc__law_steps (fun _ _ _ _ _ _ us hl => match us, hl with | [_], _ => rfl) (d__law_steps z)
/-! ### _law_bids -/
noncomputable def b__law_bids : SF := (sSeq (sPar 2 3 (fCons (fObj fNil) (fCons (fC (.int 0)) fNil)))
  (sSeq (sFor (iRng1' (fCons (fOp opAdd (fVar 1) (fC (.int 1))) fNil)) (tName 4) (sSeq (sIf (asB (fOp opGt (fVar 3) (fVar 1))) sBrk sNil)
  (sSeq (sExpr (fAppend (fVar 2) (fVar 3)))
  (sSet 3 (fOp opAdd (fVar 3) (fOp opIx (fLc (iSeq (fVar 0)) (tTup 2 (tCons2 (tName 5) (tCons2 (tName 6) tNils))) (asB (fOp opLe (fVar 5) (fVar 3))) (fVar 6) [5, 6]) (fNeg (fC (.int 1)))))))))
  (sRet (fVar 2))))
theorem sc__law_bids : FnScope ["steps", "last", "found", "here", "turn", "begin", "step"] ["steps", "last"] (defScope (top 24)) := ⟨rfl, rfl, rfl, by decide +kernel, rfl, by decide +kernel, by decide +kernel⟩
noncomputable def p__law_bids : List Val → Mem → R Val := phi 7 2 b__law_bids
theorem d__law_bids {w : World} {K : PySem.W.Frag} {mg : Str → Option Value} {base : Heap} (z : Ax K mg base) : BodyOk PySem.Challenge.pw_hammerkept_k00_whole_ladders w K mg base ["steps", "last", "found", "here", "turn", "begin", "step"] "_law_bids" (defScope (top 24)) (defBody (top 24)) 1 b__law_bids := fun f cdv A outer s H E hr tk hp => (fun nd => (vss_cons (vs_parC 2 3 (va_cons (ve_obj va_nil) (va_cons ve_int va_nil)) (by rfl) nd) (vss_cons (vs_for hp (by rfl) (vi_range1 (by rfl) (g_range z) (va_cons (ve_add (ve_var 1) ve_int) va_nil)) (vg_name 4 nd) (vss_cons (vs_if (vt_vc (vc_gt (ve_var 3) (ve_var 1))) (vss_one vs_break) vss_nil) (vss_cons (vs_expr (ve_append (ve_var 2) (ve_var 3))) (vss_one (vs_set 3 (ve_add (ve_var 3) (ve_sub1 (ve_lc (own := [("begin", 5), ("step", 6)]) (vi_seq (ve_var 0)) hr.hd (by rfl) nd (blk_of (by kernel_rfl)) (by decide) (fun _ _ _ _ _ => (vg_tup (by rfl) (vgs_cons (vg_name 5 nd) (vgs_cons (vg_name 6 nd) vgs_nil)))) (fun _ _ _ _ _ => (vts_one (vt_vc (vc_le (ve_var 5) (ve_var 3))))) (fun _ _ _ _ _ => (ve_var 6))) (ve_neg ve_int))) nd))))) (vss_one (vs_ret (ve_var 2)))))) sc__law_bids.nd
theorem fc__law_bids {w : World} {K : PySem.W.Frag} {mg : Str → Option Value} {base : Heap} (z : Ax K mg base) : FCal PySem.Challenge.pw_hammerkept_k00_whole_ladders w K mg base 2 "_law_bids" p__law_bids := fcalD (z.c.d.def_ 14 rfl) (g__law_bids z) sc__law_bids (fun _ _ _ _ _ _ us hl => match us, hl with | [_, _], _ => rfl) (d__law_bids z)
/-! ### Ladder.__init__ -/
noncomputable def b_Ladder_init : SF := (sSeq (sAttr ["Ladder"] "steps" (fVar 0) (fCall p_want_row (fCons (fVar 1) (fCons (fC (.glo "is_step")) (fCons (fC (.int 12)) fNil)))))
  (sSeq (sIf (asB (fOp opEq (fun e M => rbind ((fCons (fAttr ["Ladder"] "steps" (fVar 0)) fNil) e M) bLen) (fC (.int 0)))) (sRaise1 "BadItem" "index" (fC .non)) sNil)
  (sFor (iEnumF (fCons (fAttr ["Ladder"] "steps" (fVar 0)) fNil)) (tTup 2 (tCons2 (tName 2) (tCons2 (tName 3) tNils))) (sSeq (sIf (bAnd (asB (fOp opEq (fVar 2) (fC (.int 0)))) (asB (fOp opNe (fOp opIx (fVar 3) (fC (.int 0))) (fC (.int 0))))) (sRaise1 "BadItem" "index" (fVar 2)) sNil)
  (sIf (asB (fOp opGt (fVar 2) (fC (.int 0)))) (sSeq (sSet 4 (fOp opIx (fAttr ["Ladder"] "steps" (fVar 0)) (fOp opSub (fVar 2) (fC (.int 1)))))
  (sIf (bOr (asB (fOp opLe (fOp opIx (fVar 3) (fC (.int 0))) (fOp opIx (fVar 4) (fC (.int 0))))) (asB (fOp opNe (fOp opMod (fOp opSub (fOp opIx (fVar 3) (fC (.int 0))) (fOp opIx (fVar 4) (fC (.int 0)))) (fOp opIx (fVar 4) (fC (.int 1)))) (fC (.int 0))))) (sRaise1 "BadItem" "index" (fVar 2)) sNil)) sNil)))))
theorem sc_Ladder_init : FnScope ["self", "steps", "index", "step", "before"] ["self", "steps"] (defScope (mth 14 0)) := ⟨rfl, rfl, rfl, by decide +kernel, rfl, by decide +kernel, by decide +kernel⟩
noncomputable def p_Ladder_init : List Val → Mem → R Val := phi 5 2 b_Ladder_init
theorem d_Ladder_init {w : World} {K : PySem.W.Frag} {mg : Str → Option Value} {base : Heap} (z : Ax K mg base) : BodyOk PySem.Challenge.pw_hammerkept_k00_whole_ladders w K mg base ["self", "steps", "index", "step", "before"] "Ladder.__init__" (defScope (mth 14 0)) (defBody (mth 14 0)) 5 b_Ladder_init := fun f cdv A outer s H E hr tk hp => (fun nd => (vss_cons (vs_attr (fl_steps z) (ve_var 0) (ve_call (fc_want_row z) hr (by decide) tk (va_cons (ve_var 1) (va_cons (ve_gf ⟨_, g_is_step z⟩) (va_cons (ve_gi (g_MOST_STEPS z)) va_nil))) (by rfl))) (vss_cons (vs_if (vt_vc (vc_eq (Rm.of hr) (ve_len (by rfl) (g_len z) (va_cons (ve_attr (fl_steps z) (ve_var 0)) va_nil)) ve_int)) (vss_one (vs_raise1 (ec_BadItem z) hr (by rfl) tk (by rfl) ve_non)) vss_nil) (vss_one (vs_for hp (by rfl) (vi_enum (by rfl) (g_enumerate z) (va_cons (ve_attr (fl_steps z) (ve_var 0)) va_nil)) (vg_tup (by rfl) (vgs_cons (vg_name 2 nd) (vgs_cons (vg_name 3 nd) vgs_nil))) (vss_cons (vs_if (vt_w (vw_and (vt_vc (vc_eq (Rm.of hr) (ve_var 2) ve_int)) (vw_and1 (vt_vc (vc_ne (Rm.of hr) (ve_sub1 (ve_var 3) ve_int) ve_int))))) (vss_one (vs_raise1 (ec_BadItem z) hr (by rfl) tk (by rfl) (ve_var 2))) vss_nil) (vss_one (vs_if (vt_vc (vc_gt (ve_var 2) ve_int)) (vss_cons (vs_set 4 (ve_sub1 (ve_attr (fl_steps z) (ve_var 0)) (ve_sub (ve_var 2) ve_int)) nd) (vss_one (vs_if (vt_w (vw_or (vt_vc (vc_le (ve_sub1 (ve_var 3) ve_int) (ve_sub1 (ve_var 4) ve_int))) (vw_or1 (vt_vc (vc_ne (Rm.of hr) (ve_mod (ve_sub (ve_sub1 (ve_var 3) ve_int) (ve_sub1 (ve_var 4) ve_int)) (ve_sub1 (ve_var 4) ve_int)) ve_int))))) (vss_one (vs_raise1 (ec_BadItem z) hr (by rfl) tk (by rfl) (ve_var 2))) vss_nil))) vss_nil)))))))) sc_Ladder_init.nd
theorem nc_Ladder {w : World} {K : PySem.W.Frag} {mg : Str → Option Value} {base : Heap} (z : Ax K mg base) : NCal PySem.Challenge.pw_hammerkept_k00_whole_ladders w K mg base 6 "Ladder" p_Ladder_init := ncalD (z.c.d.def_ 17 rfl) (g_Ladder z) (He.mkr_ok (z.c.d.fact 38 rfl)) sc_Ladder_init (fun _ _ _ _ _ _ us hl => match us, hl with | [_, _], _ => rfl) (d_Ladder_init z)
/-! ### _law_raised -/
noncomputable def b__law_raised : SF := (sSeq (sTry (sExpr (fMake true "Ladder" p_Ladder_init (fCons (fVar 0) fNil))) (⟨xt_BadItem, some 1, (sRet (fTup (fCons (fC (.str "item")) (fCons (fXf ["BadItem"] "index" (fVar 1)) fNil))))⟩ :: (⟨xt_TooMany, some 1, (sRet (fTup (fCons (fC (.str "many")) (fCons (fXf ["TooMany"] "limit" (fVar 1)) fNil))))⟩ :: [])))
  (sRet (fC .non)))
theorem sc__law_raised : FnScope ["steps", "e"] ["steps"] (defScope (top 25)) := ⟨rfl, rfl, rfl, by decide +kernel, rfl, by decide +kernel, by decide +kernel⟩
noncomputable def p__law_raised : List Val → Mem → R Val := phi 2 1 b__law_raised
theorem d__law_raised {w : World} {K : PySem.W.Frag} {mg : Str → Option Value} {base : Heap} (z : Ax K mg base) : BodyOk PySem.Challenge.pw_hammerkept_k00_whole_ladders w K mg base ["steps", "e"] "_law_raised" (defScope (top 25)) (defBody (top 25)) 7 b__law_raised := fun f cdv A outer s H E hr tk hp => (fun nd => (vss_cons (vs_try hr.hd tk (fun _ _ _ tk hp => (vss_one (vs_expr (ve_make true (nc_Ladder z) hr (by decide) tk (va_cons (ve_var 0) va_nil) (by rfl))))) (.named (i := 1) (t := xt_BadItem) (nm_BadItem z) nd (by rfl) (by rfl) (xt_BadItem_ok z) (fun _ _ _ _ _ hz hf => (vss_one (vs_ret (ve_tup (va_cons ve_str (va_cons (ve_xf (cs := ["BadItem"]) (xf_BadItem_index z) hz hf (ve_var 1)) va_nil)))))) (.named (i := 1) (t := xt_TooMany) (nm_TooMany z) nd (by rfl) (by rfl) (xt_TooMany_ok z) (fun _ _ _ _ _ hz hf => (vss_one (vs_ret (ve_tup (va_cons ve_str (va_cons (ve_xf (cs := ["TooMany"]) (xf_TooMany_limit z) hz hf (ve_var 1)) va_nil)))))) .nil))) (vss_one (vs_ret ve_non)))) sc__law_raised.nd
theorem fc__law_raised {w : World} {K : PySem.W.Frag} {mg : Str → Option Value} {base : Heap} (z : Ax K mg base) : FCal PySem.Challenge.pw_hammerkept_k00_whole_ladders w K mg base 8 "_law_raised" p__law_raised := fcalD (z.c.d.def_ 15 rfl) (g__law_raised z) sc__law_raised (fun _ _ _ _ _ _ us hl => match us, hl with | [_], _ => rfl) (d__law_raised z)
/-! ### Ladder.__eq__ -/
noncomputable def b_Ladder_eq : SF := (sRet (fAnd (fIsi (fun _ => false) ct_Ladder (fVar 1)) (fOp opEq (fAttr ["Ladder"] "steps" (fVar 0)) (fAttr ["Ladder"] "steps" (fVar 1)))))
theorem sc_Ladder_eq : FnScope ["self", "other"] ["self", "other"] (defScope (mth 14 1)) := ⟨rfl, rfl, rfl, by decide +kernel, rfl, by decide +kernel, by decide +kernel⟩
noncomputable def p_Ladder_eq : List Val → Mem → R Val := phi 2 2 b_Ladder_eq
theorem d_Ladder_eq {w : World} {K : PySem.W.Frag} {mg : Str → Option Value} {base : Heap} (z : Ax K mg base) : BodyOk PySem.Challenge.pw_hammerkept_k00_whole_ladders w K mg base ["self", "other"] "Ladder.__eq__" (defScope (mth 14 1)) (defBody (mth 14 1)) 1 b_Ladder_eq := fun f cdv A outer s H E hr tk hp => (fun nd => (vss_one (vs_ret (ve_and (ve_isiC (ct := ct_Ladder) (by rfl) (g_Ladder z) (ask_Ladder z) (ac_Ladder z) (by rfl) (g_isinstance z) (ve_var 1)) (ve_one (ve_vc (vc_eq (Rm.of hr) (ve_attr (fl_steps z) (ve_var 0)) (ve_attr (fl_steps z) (ve_var 1))))))))) sc_Ladder_eq.nd
theorem qc_Ladder {w : World} {K : PySem.W.Frag} {mg : Str → Option Value} {base : Heap} (z : Ax K mg base) : EqCal PySem.Challenge.pw_hammerkept_k00_whole_ladders w K mg base 2 "Ladder" p_Ladder_eq := eqcalD (z.c.d.def_ 18 rfl) (g_Ladder z) (is_Ladder z) (z.e 1 rfl) sc_Ladder_eq (fun _ _ _ _ _ _ us hl => match us, hl with | [_, _], _ => rfl) (d_Ladder_eq z)
/-! ### Ladder.step_at -/
noncomputable def b_Ladder_step_at : SF := (sRet (fOp opIx (fLc (iSeq (fAttr ["Ladder"] "steps" (fVar 0))) (tName 2) (asB (fOp opLe (fOp opIx (fVar 2) (fC (.int 0))) (fVar 1))) (fVar 2) [2]) (fNeg (fC (.int 1)))))
theorem sc_Ladder_step_at : FnScope ["self", "bid", "step"] ["self", "bid"] (defScope (mth 14 2)) := ⟨rfl, rfl, rfl, by decide +kernel, rfl, by decide +kernel, by decide +kernel⟩
noncomputable def p_Ladder_step_at : List Val → Mem → R Val := phi 3 2 b_Ladder_step_at
theorem d_Ladder_step_at {w : World} {K : PySem.W.Frag} {mg : Str → Option Value} {base : Heap} (z : Ax K mg base) : BodyOk PySem.Challenge.pw_hammerkept_k00_whole_ladders w K mg base ["self", "bid", "step"] "Ladder.step_at" (defScope (mth 14 2)) (defBody (mth 14 2)) 1 b_Ladder_step_at := fun f cdv A outer s H E hr tk hp => (fun nd => (vss_one (vs_ret (ve_sub1 (ve_lc (own := [("step", 2)]) (vi_seq (ve_attr (fl_steps z) (ve_var 0))) hr.hd (by rfl) nd (blk_of (by kernel_rfl)) (by decide) (fun _ _ _ _ _ => (vg_name 2 nd)) (fun _ _ _ _ _ => (vts_one (vt_vc (vc_le (ve_sub1 (ve_var 2) ve_int) (ve_var 1))))) (fun _ _ _ _ _ => (ve_var 2))) (ve_neg ve_int))))) sc_Ladder_step_at.nd
theorem mc_Ladder_step_at {w : World} {K : PySem.W.Frag} {mg : Str → Option Value} {base : Heap} (z : Ax K mg base) : MCal PySem.Challenge.pw_hammerkept_k00_whole_ladders w K mg base 2 "Ladder" "step_at" p_Ladder_step_at := mcalD (z.c.d.def_ 19 rfl) (g_Ladder z) (cls_Ladder z) (He.meth_ok (z.c.d.fact 39 rfl)) sc_Ladder_step_at (fun _ _ _ _ _ _ us hl => match us, hl with | [_, _], _ => rfl) (d_Ladder_step_at z)
/-! ### Ladder.is_bid -/
noncomputable def b_Ladder_is_bid : SF := (sSeq (sIf (bNot (asT (fCall p_is_number (fCons (fVar 1) (fCons (fC (.int 0)) (fCons (fC (.int 99999)) fNil)))))) (sRet (fC (.bl false))) sNil)
  (sSeq (sUnp (tTup 2 (tCons2 (tName 2) (tCons2 (tName 3) tNils))) (fMeth "Ladder" "step_at" p_Ladder_step_at (fVar 0) (fCons (fVar 1) fNil)))
  (sRet (fOp opEq (fOp opMod (fOp opSub (fVar 1) (fVar 2)) (fVar 3)) (fC (.int 0))))))
theorem sc_Ladder_is_bid : FnScope ["self", "value", "begin", "step"] ["self", "value"] (defScope (mth 14 3)) := ⟨rfl, rfl, rfl, by decide +kernel, rfl, by decide +kernel, by decide +kernel⟩
noncomputable def p_Ladder_is_bid : List Val → Mem → R Val := phi 4 2 b_Ladder_is_bid
theorem d_Ladder_is_bid {w : World} {K : PySem.W.Frag} {mg : Str → Option Value} {base : Heap} (z : Ax K mg base) : BodyOk PySem.Challenge.pw_hammerkept_k00_whole_ladders w K mg base ["self", "value", "begin", "step"] "Ladder.is_bid" (defScope (mth 14 3)) (defBody (mth 14 3)) 3 b_Ladder_is_bid := fun f cdv A outer s H E hr tk hp => (fun nd => (vss_cons (vs_if (vt_not (vt_val (ve_call (fc_is_number z) hr (by decide) tk (va_cons (ve_var 1) (va_cons ve_int (va_cons (ve_gi (g_MOST_BID z)) va_nil))) (by rfl)))) (vss_one (vs_ret ve_bl)) vss_nil) (vss_cons (vs_unp (ve_meth (mc_Ladder_step_at z) hr (by decide) tk (ve_var 0) (va_cons (ve_var 1) va_nil)) (vg_tup (by rfl) (vgs_cons (vg_name 2 nd) (vgs_cons (vg_name 3 nd) vgs_nil)))) (vss_one (vs_ret (ve_vc (vc_eq (Rm.of hr) (ve_mod (ve_sub (ve_var 1) (ve_var 2)) (ve_var 3)) ve_int))))))) sc_Ladder_is_bid.nd
theorem mc_Ladder_is_bid {w : World} {K : PySem.W.Frag} {mg : Str → Option Value} {base : Heap} (z : Ax K mg base) : MCal PySem.Challenge.pw_hammerkept_k00_whole_ladders w K mg base 4 "Ladder" "is_bid" p_Ladder_is_bid := mcalD (z.c.d.def_ 20 rfl) (g_Ladder z) (cls_Ladder z) (He.meth_ok (z.c.d.fact 40 rfl)) sc_Ladder_is_bid (fun _ _ _ _ _ _ us hl => match us, hl with | [_, _], _ => rfl) (d_Ladder_is_bid z)
/-! ### Ladder.next_bid -/
noncomputable def b_Ladder_next_bid : SF := (sSeq (sUnp (tTup 2 (tCons2 (tName 2) (tCons2 (tName 3) tNils))) (fMeth "Ladder" "step_at" p_Ladder_step_at (fVar 0) (fCons (fVar 1) fNil)))
  (sRet (fOp opAdd (fVar 2) (fOp opMul (fOp opAdd (fOp opFdiv (fOp opSub (fVar 1) (fVar 2)) (fVar 3)) (fC (.int 1))) (fVar 3)))))
theorem sc_Ladder_next_bid : FnScope ["self", "bid", "begin", "step"] ["self", "bid"] (defScope (mth 14 4)) := ⟨rfl, rfl, rfl, by decide +kernel, rfl, by decide +kernel, by decide +kernel⟩
noncomputable def p_Ladder_next_bid : List Val → Mem → R Val := phi 4 2 b_Ladder_next_bid
theorem d_Ladder_next_bid {w : World} {K : PySem.W.Frag} {mg : Str → Option Value} {base : Heap} (z : Ax K mg base) : BodyOk PySem.Challenge.pw_hammerkept_k00_whole_ladders w K mg base ["self", "bid", "begin", "step"] "Ladder.next_bid" (defScope (mth 14 4)) (defBody (mth 14 4)) 2 b_Ladder_next_bid := fun f cdv A outer s H E hr tk hp => (fun nd => (vss_cons (vs_unp (ve_meth (mc_Ladder_step_at z) hr (by decide) tk (ve_var 0) (va_cons (ve_var 1) va_nil)) (vg_tup (by rfl) (vgs_cons (vg_name 2 nd) (vgs_cons (vg_name 3 nd) vgs_nil)))) (vss_one (vs_ret (ve_add (ve_var 2) (ve_mul (ve_add (ve_fdiv (ve_sub (ve_var 1) (ve_var 2)) (ve_var 3)) ve_int) (ve_var 3))))))) sc_Ladder_next_bid.nd
theorem mc_Ladder_next_bid {w : World} {K : PySem.W.Frag} {mg : Str → Option Value} {base : Heap} (z : Ax K mg base) : MCal PySem.Challenge.pw_hammerkept_k00_whole_ladders w K mg base 3 "Ladder" "next_bid" p_Ladder_next_bid := mcalD (z.c.d.def_ 21 rfl) (g_Ladder z) (cls_Ladder z) (He.meth_ok (z.c.d.fact 41 rfl)) sc_Ladder_next_bid (fun _ _ _ _ _ _ us hl => match us, hl with | [_, _], _ => rfl) (d_Ladder_next_bid z)
/-! ### Ladder.down -/
noncomputable def b_Ladder_down : SF := (sSeq (sUnp (tTup 2 (tCons2 (tName 2) (tCons2 (tName 3) tNils))) (fMeth "Ladder" "step_at" p_Ladder_step_at (fVar 0) (fCons (fVar 1) fNil)))
  (sRet (fOp opAdd (fVar 2) (fOp opMul (fOp opFdiv (fOp opSub (fVar 1) (fVar 2)) (fVar 3)) (fVar 3)))))
theorem sc_Ladder_down : FnScope ["self", "amount", "begin", "step"] ["self", "amount"] (defScope (mth 14 5)) := ⟨rfl, rfl, rfl, by decide +kernel, rfl, by decide +kernel, by decide +kernel⟩
noncomputable def p_Ladder_down : List Val → Mem → R Val := phi 4 2 b_Ladder_down
theorem d_Ladder_down {w : World} {K : PySem.W.Frag} {mg : Str → Option Value} {base : Heap} (z : Ax K mg base) : BodyOk PySem.Challenge.pw_hammerkept_k00_whole_ladders w K mg base ["self", "amount", "begin", "step"] "Ladder.down" (defScope (mth 14 5)) (defBody (mth 14 5)) 2 b_Ladder_down := fun f cdv A outer s H E hr tk hp => (fun nd => (vss_cons (vs_unp (ve_meth (mc_Ladder_step_at z) hr (by decide) tk (ve_var 0) (va_cons (ve_var 1) va_nil)) (vg_tup (by rfl) (vgs_cons (vg_name 2 nd) (vgs_cons (vg_name 3 nd) vgs_nil)))) (vss_one (vs_ret (ve_add (ve_var 2) (ve_mul (ve_fdiv (ve_sub (ve_var 1) (ve_var 2)) (ve_var 3)) (ve_var 3))))))) sc_Ladder_down.nd
theorem mc_Ladder_down {w : World} {K : PySem.W.Frag} {mg : Str → Option Value} {base : Heap} (z : Ax K mg base) : MCal PySem.Challenge.pw_hammerkept_k00_whole_ladders w K mg base 3 "Ladder" "down" p_Ladder_down := mcalD (z.c.d.def_ 22 rfl) (g_Ladder z) (cls_Ladder z) (He.meth_ok (z.c.d.fact 42 rfl)) sc_Ladder_down (fun _ _ _ _ _ _ us hl => match us, hl with | [_, _], _ => rfl) (d_Ladder_down z)
/-! ### Ladder.up -/
noncomputable def b_Ladder_up : SF := (sSeq (sSet 2 (fMeth "Ladder" "down" p_Ladder_down (fVar 0) (fCons (fVar 1) fNil)))
  (sRet (fIf (asB (fOp opEq (fVar 2) (fVar 1))) (fVar 2) (fMeth "Ladder" "next_bid" p_Ladder_next_bid (fVar 0) (fCons (fVar 1) fNil)))))
theorem sc_Ladder_up : FnScope ["self", "amount", "here"] ["self", "amount"] (defScope (mth 14 6)) := ⟨rfl, rfl, rfl, by decide +kernel, rfl, by decide +kernel, by decide +kernel⟩
noncomputable def p_Ladder_up : List Val → Mem → R Val := phi 3 2 b_Ladder_up
theorem d_Ladder_up {w : World} {K : PySem.W.Frag} {mg : Str → Option Value} {base : Heap} (z : Ax K mg base) : BodyOk PySem.Challenge.pw_hammerkept_k00_whole_ladders w K mg base ["self", "amount", "here"] "Ladder.up" (defScope (mth 14 6)) (defBody (mth 14 6)) 3 b_Ladder_up := fun f cdv A outer s H E hr tk hp => (fun nd => (vss_cons (vs_set 2 (ve_meth (mc_Ladder_down z) hr (by decide) tk (ve_var 0) (va_cons (ve_var 1) va_nil)) nd) (vss_one (vs_ret (ve_if (vt_vc (vc_eq (Rm.of hr) (ve_var 2) (ve_var 1))) (ve_var 2) (ve_meth (mc_Ladder_next_bid z) hr (by decide) tk (ve_var 0) (va_cons (ve_var 1) va_nil))))))) sc_Ladder_up.nd
theorem mc_Ladder_up {w : World} {K : PySem.W.Frag} {mg : Str → Option Value} {base : Heap} (z : Ax K mg base) : MCal PySem.Challenge.pw_hammerkept_k00_whole_ladders w K mg base 4 "Ladder" "up" p_Ladder_up := mcalD (z.c.d.def_ 23 rfl) (g_Ladder z) (cls_Ladder z) (He.meth_ok (z.c.d.fact 43 rfl)) sc_Ladder_up (fun _ _ _ _ _ _ us hl => match us, hl with | [_, _], _ => rfl) (d_Ladder_up z)
/-! ### Ladder.rungs -/
noncomputable def b_Ladder_rungs : SF := (sSeq (sPar 3 4 (fCons (fC (.int 0)) (fCons (fMeth "Ladder" "up" p_Ladder_up (fVar 0) (fCons (fVar 1) fNil)) fNil)))
  (sSeq (sFor (iSeq (fAttr ["Ladder"] "steps" (fVar 0))) (tTup 2 (tCons2 (tName 5) (tCons2 (tName 6) tNils))) (sSeq (sSet 7 (fLc (iSeq (fAttr ["Ladder"] "steps" (fVar 0))) (tTup 2 (tCons2 (tName 10) (tCons2 (tName 11) tNils))) (asB (fOp opGt (fVar 10) (fVar 5))) (fVar 10) [10, 11]))
  (sSeq (sSet 8 (fun e M => rbind ((fCons (fOp opAdd (fVar 7) (fLst (fCons (fOp opAdd (fVar 2) (fC (.int 1))) fNil))) fNil) e M) bMin))
  (sSeq (sSet 9 (fun e M => rbind ((fCons (fVar 4) (fCons (fVar 5) fNil)) e M) bMax))
  (sIf (asB (fOp opLt (fVar 9) (fVar 8))) (sAug (fun a b => a + b) 3 (fOp opAdd (fOp opFdiv (fOp opSub (fOp opSub (fVar 8) (fC (.int 1))) (fVar 9)) (fVar 6)) (fC (.int 1)))) sNil)))))
  (sRet (fVar 3))))
theorem sc_Ladder_rungs : FnScope ["self", "first", "last", "many", "here", "begin", "step", "ends", "end", "low", "other", "more"] ["self", "first", "last"] (defScope (mth 14 7)) := ⟨rfl, rfl, rfl, by decide +kernel, rfl, by decide +kernel, by decide +kernel⟩
noncomputable def p_Ladder_rungs : List Val → Mem → R Val := phi 12 3 b_Ladder_rungs
theorem d_Ladder_rungs {w : World} {K : PySem.W.Frag} {mg : Str → Option Value} {base : Heap} (z : Ax K mg base) : BodyOk PySem.Challenge.pw_hammerkept_k00_whole_ladders w K mg base ["self", "first", "last", "many", "here", "begin", "step", "ends", "end", "low", "other", "more"] "Ladder.rungs" (defScope (mth 14 7)) (defBody (mth 14 7)) 4 b_Ladder_rungs := fun f cdv A outer s H E hr tk hp => (fun nd => (vss_cons (vs_par 3 4 (va_cons ve_int (va_cons (ve_meth (mc_Ladder_up z) hr (by decide) tk (ve_var 0) (va_cons (ve_var 1) va_nil)) va_nil)) (by rfl) nd) (vss_cons (vs_for hp (by rfl) (vi_seq (ve_attr (fl_steps z) (ve_var 0))) (vg_tup (by rfl) (vgs_cons (vg_name 5 nd) (vgs_cons (vg_name 6 nd) vgs_nil))) (vss_cons (vs_setLc (i := 7) (own := [("other", 10), ("more", 11)]) (vi_seq (ve_attr (fl_steps z) (ve_var 0))) hr.hd (by rfl) nd (blk_of (by kernel_rfl)) (by decide) (fun _ _ _ _ _ => (vg_tup (by rfl) (vgs_cons (vg_name 10 nd) (vgs_cons (vg_name 11 nd) vgs_nil)))) (fun _ _ _ _ _ => (vts_one (vt_vc (vc_gt (ve_var 10) (ve_var 5))))) (fun _ _ _ _ _ => (ve_var 10))) (vss_cons (vs_set 8 (ve_min (by rfl) (by rfl) (g_min z) (va_cons (ve_add (ve_var 7) (ve_lst (va_cons (ve_add (ve_var 2) ve_int) va_nil))) va_nil)) nd) (vss_cons (vs_set 9 (ve_max (by rfl) (by rfl) (g_max z) (va_cons (ve_var 4) (va_cons (ve_var 5) va_nil))) nd) (vss_one (vs_if (vt_vc (vc_lt (Rm.of hr) (ve_var 9) (ve_var 8))) (vss_one (vs_augAdd 3 (ve_add (ve_fdiv (ve_sub (ve_sub (ve_var 8) ve_int) (ve_var 9)) (ve_var 6)) ve_int) nd)) vss_nil)))))) (vss_one (vs_ret (ve_var 3)))))) sc_Ladder_rungs.nd
theorem mc_Ladder_rungs {w : World} {K : PySem.W.Frag} {mg : Str → Option Value} {base : Heap} (z : Ax K mg base) : MCal PySem.Challenge.pw_hammerkept_k00_whole_ladders w K mg base 5 "Ladder" "rungs" p_Ladder_rungs := mcalD (z.c.d.def_ 24 rfl) (g_Ladder z) (cls_Ladder z) (He.meth_ok (z.c.d.fact 44 rfl)) sc_Ladder_rungs (fun _ _ _ _ _ _ us hl => match us, hl with | [_, _, _], _ => rfl) (d_Ladder_rungs z)
/-! ### law -/
noncomputable def b_law : SF := (sSeq (sSet 1 (fObj (fCons (fVar 0) (fCons (fC (.int 0)) (fCons (fC (.int 17)) (fCons (fC (.int 0)) fNil))))))
  (sSeq (sSet 2 (fCall p__law_steps (fCons (fVar 1) fNil)))
  (sSeq (sPar 3 4 (fCons (fMake true "Ladder" p_Ladder_init (fCons (fCall p__law_mixed (fCons (fVar 1) (fCons (fLc (iSeq (fVar 2)) (tName 9) bYes (fCall p__law_mixed (fCons (fVar 1) (fCons (fVar 9) fNil))) [9]) fNil))) fNil)) (fCons (fCall p__law_bids (fCons (fVar 2) (fCons (fC (.int 90)) fNil))) fNil)))
  (sSeq (sIf (bOr (bNot (asT (fCall (p__law_alike 4) (fCons (fAttr ["Ladder"] "steps" (fVar 3)) (fCons (fVar 2) fNil))))) (bOr (asB (fOp (opOwn true "Ladder" p_Ladder_eq) (fVar 3) (fMake true "Ladder" p_Ladder_init (fCons (fVar 2) fNil)))) (bOr (asB (fOp (opOwn false "Ladder" p_Ladder_eq) (fVar 3) (fVar 2))) (asB (fOp (opOwn false "Ladder" p_Ladder_eq) (fVar 3) (fMake true "Ladder" p_Ladder_init (fCons (fOp opAdd (fVar 2) (fTup (fCons (fTup (fCons (fOp opIx (fCall p__law_bids (fCons (fVar 2) (fCons (fC (.int 200)) fNil))) (fNeg (fC (.int 1)))) (fCons (fC (.int 9)) fNil))) fNil))) fNil))))))) (sRet (fC (.bl false))) sNil)
  (sSeq (sFor (iRng1' (fCons (fC (.int 60)) fNil)) (tName 5) (sSeq (sSet 12 (fTup (fCons (fOp opIx (fLc (iSeq (fVar 4)) (tName 16) (asB (fOp opLe (fVar 16) (fVar 5))) (fVar 16) [16]) (fNeg (fC (.int 1)))) (fCons (fOp opIx (fLc (iSeq (fVar 4)) (tName 16) (asB (fOp opGe (fVar 16) (fVar 5))) (fVar 16) [16]) (fC (.int 0))) (fCons (fOp opIx (fLc (iSeq (fVar 4)) (tName 16) (asB (fOp opGt (fVar 16) (fVar 5))) (fVar 16) [16]) (fC (.int 0))) fNil)))))
  (sSeq (sIf (bNot (asT (fCall (p__law_alike 4) (fCons (fTup (fCons (fMeth "Ladder" "down" p_Ladder_down (fVar 3) (fCons (fVar 5) fNil)) (fCons (fMeth "Ladder" "up" p_Ladder_up (fVar 3) (fCons (fVar 5) fNil)) (fCons (fMeth "Ladder" "next_bid" p_Ladder_next_bid (fVar 3) (fCons (fVar 5) fNil)) fNil)))) (fCons (fVar 12) fNil))))) (sRet (fC (.bl false))) sNil)
  (sIf (bOr (bNot (asT (fCall p__law_truth (fCons (fMeth "Ladder" "is_bid" p_Ladder_is_bid (fVar 3) (fCons (fVar 5) fNil)) (fCons (fOp (opIn false) (fVar 5) (fVar 4)) fNil))))) (bNot (asT (fCall (p__law_alike 4) (fCons (fMeth "Ladder" "step_at" p_Ladder_step_at (fVar 3) (fCons (fVar 5) fNil)) (fCons (fOp opIx (fLc (iSeq (fVar 2)) (tName 9) (asB (fOp opLe (fOp opIx (fVar 9) (fC (.int 0))) (fVar 5))) (fVar 9) [9]) (fNeg (fC (.int 1)))) fNil)))))) (sRet (fC (.bl false))) sNil))))
  (sSeq (sFor (iRng1' (fCons (fC (.int 4)) fNil)) (tName 6) (sSeq (sPar 13 8 (fCons (fCall p__law_taken (fCons (fVar 1) (fCons (fC (.int 50)) fNil))) (fCons (fCall p__law_taken (fCons (fVar 1) (fCons (fC (.int 60)) fNil))) fNil)))
  (sIf (bNot (asT (fCall (p__law_alike 4) (fCons (fMeth "Ladder" "rungs" p_Ladder_rungs (fVar 3) (fCons (fVar 13) (fCons (fVar 8) fNil))) (fCons (fun e M => rbind ((fCons (fLc (iSeq (fVar 4)) (tName 16) (asB (fChain opLe opLe (fVar 13) (fVar 16) (fVar 8))) (fVar 16) [16]) fNil) e M) bLen) fNil))))) (sRet (fC (.bl false))) sNil)))
  (sSeq (sFor (iSeq (fLst (fCons (fC .non) (fCons (fC (.bl true)) (fCons (fNeg (fC (.int 1))) (fCons (fC (.str "5")) (fCons (fC (.int 100000)) fNil))))))) (tName 7) (sIf (asB (fOp (opIsB true) (fMeth "Ladder" "is_bid" p_Ladder_is_bid (fVar 3) (fCons (fVar 7) fNil)) (fC (.bl false)))) (sRet (fC (.bl false))) sNil))
  (sSeq (sUnp (tTup 2 (tCons2 (tName 8) (tCons2 (tName 9) tNils))) (fOp opIx (fVar 2) (fNeg (fC (.int 1)))))
  (sSeq (sSet 10 (fCall p__law_pick (fCons (fVar 1) (fCons (fLst (fCons (fTup (fCons (fOp opAdd (fVar 8) (fVar 9)) (fCons (fC (.int 0)) fNil))) (fCons (fTup (fCons (fOp opAdd (fVar 8) (fVar 9)) (fCons (fC (.int 100000)) fNil))) (fCons (fTup (fCons (fC (.int 100000)) (fCons (fC (.int 1)) fNil))) (fCons (fTup (fCons (fOp opAdd (fVar 8) (fVar 9)) fNil)) (fCons (fC .non) (fCons (fTup (fCons (fC (.bl true)) (fCons (fC (.int 1)) fNil))) (fCons (fTup (fCons (fVar 8) (fCons (fC (.int 1)) fNil))) (fCons (fTup (fCons (fOp opAdd (fOp opAdd (fVar 8) (fOp opMul (fVar 9) (fC (.int 2)))) (fC (.int 1))) (fCons (fC (.int 1)) fNil))) fNil))))))))) fNil))))
  (sSeq (sIf (bAnd (asB (fOp opEq (fVar 10) (fTup (fCons (fOp opAdd (fOp opAdd (fVar 8) (fOp opMul (fVar 9) (fC (.int 2)))) (fC (.int 1))) (fCons (fC (.int 1)) fNil))))) (asB (fOp opEq (fVar 9) (fC (.int 1))))) (sSet 10 (fC .non)) sNil)
  (sSeq (sSet 11 (fLst (fCons (fTup (fCons (fOp opAdd (fVar 2) (fTup (fCons (fVar 10) fNil))) (fCons (fTup (fCons (fC (.str "item")) (fCons (fun e M => rbind ((fCons (fVar 2) fNil) e M) bLen) fNil))) fNil))) (fCons (fTup (fCons (fTup fNil) (fCons (fTup (fCons (fC (.str "item")) (fCons (fC .non) fNil))) fNil))) (fCons (fTup (fCons (fC .non) (fCons (fTup (fCons (fC (.str "item")) (fCons (fC .non) fNil))) fNil))) (fCons (fTup (fCons (fTup (fCons (fTup (fCons (fC (.int 1)) (fCons (fC (.int 1)) fNil))) fNil)) (fCons (fTup (fCons (fC (.str "item")) (fCons (fC (.int 0)) fNil))) fNil))) (fCons (fTup (fCons (fLc (iRng1' (fCons (fC (.int 13)) fNil)) (tName 15) bYes (fTup (fCons (fVar 15) (fCons (fC (.int 1)) fNil))) [15]) (fCons (fTup (fCons (fC (.str "many")) (fCons (fC (.int 12)) fNil))) fNil))) fNil)))))))
  (sSeq (sSet 11 (fOp opAdd (fVar 11) (fLst (fCons (fTup (fCons (fTup (fCons (fTup (fCons (fC (.int 0)) (fCons (fC (.int 2)) fNil))) (fCons (fTup (fCons (fC (.int 3)) (fCons (fC (.int 1)) fNil))) fNil))) (fCons (fTup (fCons (fC (.str "item")) (fCons (fC (.int 1)) fNil))) fNil))) (fCons (fTup (fCons (fTup (fCons (fTup (fCons (fC (.int 0)) (fCons (fC (.int 2)) fNil))) (fCons (fTup (fCons (fC (.int 4)) (fCons (fC (.int 3)) fNil))) (fCons (fTup (fCons (fC (.int 4)) (fCons (fC (.int 1)) fNil))) fNil)))) (fCons (fTup (fCons (fC (.str "item")) (fCons (fC (.int 2)) fNil))) fNil))) fNil)))))
  (sRet (fOp opEq (fLc (iSeq (fVar 11)) (tName 14) (bNot (asT (fCall p__law_refused_row (fCons (fCall p__law_raised (fCons (fOp opIx (fVar 14) (fC (.int 0))) fNil)) (fCons (fOp opIx (fVar 14) (fC (.int 1))) fNil))))) (fVar 14) [14]) (fLst fNil)))))))))))))))
theorem sc_law : FnScope ["script", "row", "steps", "made", "bids", "amount", "turn", "value", "last", "step", "bad", "checks", "due", "first", "one", "k", "bid"] ["script"] (defScope (top 26)) := ⟨rfl, rfl, rfl, by decide +kernel, rfl, by decide +kernel, by decide +kernel⟩
noncomputable def p_law : List Val → Mem → R Val := phi 17 1 b_law
theorem d_law {w : World} {K : PySem.W.Frag} {mg : Str → Option Value} {base : Heap} (z : Ax K mg base) : BodyOk PySem.Challenge.pw_hammerkept_k00_whole_ladders w K mg base ["script", "row", "steps", "made", "bids", "amount", "turn", "value", "last", "step", "bad", "checks", "due", "first", "one", "k", "bid"] "law" (defScope (top 26)) (defBody (top 26)) 8 b_law := fun f cdv A outer s H E hr tk hp => (fun nd => (vss_cons (vs_set 1 (ve_obj (va_cons (ve_var 0) (va_cons ve_int (va_cons ve_int (va_cons ve_int va_nil))))) nd) (vss_cons (vs_set 2 (ve_call (fc__law_steps z) hr (by decide) tk (va_cons (ve_var 1) va_nil) (by rfl)) nd) (vss_cons (vs_par 3 4 (va_cons (ve_make true (nc_Ladder z) hr (by decide) tk (va_cons (ve_call (fc__law_mixed z) hr (by decide) tk (va_cons (ve_var 1) (va_cons (ve_lc (own := [("step", 9)]) (vi_seq (ve_var 2)) hr.hd (by rfl) nd (blk_of (by kernel_rfl)) (by decide) (fun _ _ _ _ _ => (vg_name 9 nd)) (fun _ _ _ _ _ => vts_nil) (fun _ _ _ _ _ => (fun tk => (ve_call (fc__law_mixed z) hr (by decide) tk (va_cons (ve_var 1) (va_cons (ve_var 9) va_nil)) (by rfl))) takes_W0)) va_nil)) (by rfl)) va_nil) (by rfl)) (va_cons (ve_call (fc__law_bids z) hr (by decide) tk (va_cons (ve_var 2) (va_cons ve_int va_nil)) (by rfl)) va_nil)) (by rfl) nd) (vss_cons (vs_if (vt_w (vw_or (vt_not (vt_val (ve_call (fc__law_alike z 4) hr (by decide) tk (va_cons (ve_attr (fl_steps z) (ve_var 3)) (va_cons (ve_var 2) va_nil)) (by rfl)))) (vw_or (vt_vc (vc_neOwn (qc_Ladder z) hr (by decide) (ve_var 3) (ve_make true (nc_Ladder z) hr (by decide) tk (va_cons (ve_var 2) va_nil) (by rfl)))) (vw_or (vt_vc (vc_eqOwn (qc_Ladder z) hr (by decide) (ve_var 3) (ve_var 2))) (vw_or1 (vt_vc (vc_eqOwn (qc_Ladder z) hr (by decide) (ve_var 3) (ve_make true (nc_Ladder z) hr (by decide) tk (va_cons (ve_add (ve_var 2) (ve_tup (va_cons (ve_tup (va_cons (ve_sub1 (ve_call (fc__law_bids z) hr (by decide) tk (va_cons (ve_var 2) (va_cons ve_int va_nil)) (by rfl)) (ve_neg ve_int)) (va_cons ve_int va_nil))) va_nil))) va_nil) (by rfl))))))))) (vss_one (vs_ret ve_bl)) vss_nil) (vss_cons (vs_for hp (by rfl) (vi_range1 (by rfl) (g_range z) (va_cons ve_int va_nil)) (vg_name 5 nd) (vss_cons (vs_set 12 (ve_tup (va_cons (ve_sub1 (ve_lc (own := [("bid", 16)]) (vi_seq (ve_var 4)) hr.hd (by rfl) nd (blk_of (by kernel_rfl)) (by decide) (fun _ _ _ _ _ => (vg_name 16 nd)) (fun _ _ _ _ _ => (vts_one (vt_vc (vc_le (ve_var 16) (ve_var 5))))) (fun _ _ _ _ _ => (ve_var 16))) (ve_neg ve_int)) (va_cons (ve_sub1 (ve_lc (own := [("bid", 16)]) (vi_seq (ve_var 4)) hr.hd (by rfl) nd (blk_of (by kernel_rfl)) (by decide) (fun _ _ _ _ _ => (vg_name 16 nd)) (fun _ _ _ _ _ => (vts_one (vt_vc (vc_ge (ve_var 16) (ve_var 5))))) (fun _ _ _ _ _ => (ve_var 16))) ve_int) (va_cons (ve_sub1 (ve_lc (own := [("bid", 16)]) (vi_seq (ve_var 4)) hr.hd (by rfl) nd (blk_of (by kernel_rfl)) (by decide) (fun _ _ _ _ _ => (vg_name 16 nd)) (fun _ _ _ _ _ => (vts_one (vt_vc (vc_gt (ve_var 16) (ve_var 5))))) (fun _ _ _ _ _ => (ve_var 16))) ve_int) va_nil)))) nd) (vss_cons (vs_if (vt_not (vt_val (ve_call (fc__law_alike z 4) hr (by decide) tk (va_cons (ve_tup (va_cons (ve_meth (mc_Ladder_down z) hr (by decide) tk (ve_var 3) (va_cons (ve_var 5) va_nil)) (va_cons (ve_meth (mc_Ladder_up z) hr (by decide) tk (ve_var 3) (va_cons (ve_var 5) va_nil)) (va_cons (ve_meth (mc_Ladder_next_bid z) hr (by decide) tk (ve_var 3) (va_cons (ve_var 5) va_nil)) va_nil)))) (va_cons (ve_var 12) va_nil)) (by rfl)))) (vss_one (vs_ret ve_bl)) vss_nil) (vss_one (vs_if (vt_w (vw_or (vt_not (vt_val (ve_call (fc__law_truth z) hr (by decide) tk (va_cons (ve_meth (mc_Ladder_is_bid z) hr (by decide) tk (ve_var 3) (va_cons (ve_var 5) va_nil)) (va_cons (ve_vc (vc_in (Rm.of hr) (ve_var 5) (ve_var 4))) va_nil)) (by rfl)))) (vw_or1 (vt_not (vt_val (ve_call (fc__law_alike z 4) hr (by decide) tk (va_cons (ve_meth (mc_Ladder_step_at z) hr (by decide) tk (ve_var 3) (va_cons (ve_var 5) va_nil)) (va_cons (ve_sub1 (ve_lc (own := [("step", 9)]) (vi_seq (ve_var 2)) hr.hd (by rfl) nd (blk_of (by kernel_rfl)) (by decide) (fun _ _ _ _ _ => (vg_name 9 nd)) (fun _ _ _ _ _ => (vts_one (vt_vc (vc_le (ve_sub1 (ve_var 9) ve_int) (ve_var 5))))) (fun _ _ _ _ _ => (ve_var 9))) (ve_neg ve_int)) va_nil)) (by rfl))))))) (vss_one (vs_ret ve_bl)) vss_nil))))) (vss_cons (vs_for hp (by rfl) (vi_range1 (by rfl) (g_range z) (va_cons ve_int va_nil)) (vg_name 6 nd) (vss_cons (vs_parC 13 8 (va_cons (ve_call (fc__law_taken z) hr (by decide) tk (va_cons (ve_var 1) (va_cons ve_int va_nil)) (by rfl)) (va_cons (ve_call (fc__law_taken z) hr (by decide) tk (va_cons (ve_var 1) (va_cons ve_int va_nil)) (by rfl)) va_nil)) (by rfl) nd) (vss_one (vs_if (vt_not (vt_val (ve_call (fc__law_alike z 4) hr (by decide) tk (va_cons (ve_meth (mc_Ladder_rungs z) hr (by decide) tk (ve_var 3) (va_cons (ve_var 13) (va_cons (ve_var 8) va_nil))) (va_cons (ve_len (by rfl) (g_len z) (va_cons (ve_lc (own := [("bid", 16)]) (vi_seq (ve_var 4)) hr.hd (by rfl) nd (blk_of (by kernel_rfl)) (by decide) (fun _ _ _ _ _ => (vg_name 16 nd)) (fun _ _ _ _ _ => (vts_one (vt_chain_le (ve_var 13) (ve_var 16) (ve_var 8)))) (fun _ _ _ _ _ => (ve_var 16))) va_nil)) va_nil)) (by rfl)))) (vss_one (vs_ret ve_bl)) vss_nil)))) (vss_cons (vs_for hp (by rfl) (vi_seq (ve_lst (va_cons ve_non (va_cons ve_bl (va_cons (ve_neg ve_int) (va_cons ve_str (va_cons ve_int va_nil))))))) (vg_name 7 nd) (vss_one (vs_if (vt_vc (vc_notB (ve_meth (mc_Ladder_is_bid z) hr (by decide) tk (ve_var 3) (va_cons (ve_var 7) va_nil)) ve_bl)) (vss_one (vs_ret ve_bl)) vss_nil))) (vss_cons (vs_unp (ve_sub1 (ve_var 2) (ve_neg ve_int)) (vg_tup (by rfl) (vgs_cons (vg_name 8 nd) (vgs_cons (vg_name 9 nd) vgs_nil)))) (vss_cons (vs_set 10 (ve_call (fc__law_pick z) hr (by decide) tk (va_cons (ve_var 1) (va_cons (ve_lst (va_cons (ve_tup (va_cons (ve_add (ve_var 8) (ve_var 9)) (va_cons ve_int va_nil))) (va_cons (ve_tup (va_cons (ve_add (ve_var 8) (ve_var 9)) (va_cons ve_int va_nil))) (va_cons (ve_tup (va_cons ve_int (va_cons ve_int va_nil))) (va_cons (ve_tup (va_cons (ve_add (ve_var 8) (ve_var 9)) va_nil)) (va_cons ve_non (va_cons (ve_tup (va_cons ve_bl (va_cons ve_int va_nil))) (va_cons (ve_tup (va_cons (ve_var 8) (va_cons ve_int va_nil))) (va_cons (ve_tup (va_cons (ve_add (ve_add (ve_var 8) (ve_mul (ve_var 9) ve_int)) ve_int) (va_cons ve_int va_nil))) va_nil))))))))) va_nil)) (by rfl)) nd) (vss_cons (vs_if (vt_w (vw_and (vt_vc (vc_eq (Rm.of hr) (ve_var 10) (ve_tup (va_cons (ve_add (ve_add (ve_var 8) (ve_mul (ve_var 9) ve_int)) ve_int) (va_cons ve_int va_nil))))) (vw_and1 (vt_vc (vc_eq (Rm.of hr) (ve_var 9) ve_int))))) (vss_one (vs_set 10 ve_non nd)) vss_nil) (vss_cons (vs_set 11 (ve_lst (va_cons (ve_tup (va_cons (ve_add (ve_var 2) (ve_tup (va_cons (ve_var 10) va_nil))) (va_cons (ve_tup (va_cons ve_str (va_cons (ve_len (by rfl) (g_len z) (va_cons (ve_var 2) va_nil)) va_nil))) va_nil))) (va_cons (ve_tup (va_cons (ve_tup va_nil) (va_cons (ve_tup (va_cons ve_str (va_cons ve_non va_nil))) va_nil))) (va_cons (ve_tup (va_cons ve_non (va_cons (ve_tup (va_cons ve_str (va_cons ve_non va_nil))) va_nil))) (va_cons (ve_tup (va_cons (ve_tup (va_cons (ve_tup (va_cons ve_int (va_cons ve_int va_nil))) va_nil)) (va_cons (ve_tup (va_cons ve_str (va_cons ve_int va_nil))) va_nil))) (va_cons (ve_tup (va_cons (ve_lc (own := [("k", 15)]) (vi_range1 (by rfl) (g_range z) (va_cons ve_int va_nil)) hr.hd (by rfl) nd (blk_of (by kernel_rfl)) (by decide) (fun _ _ _ _ _ => (vg_name 15 nd)) (fun _ _ _ _ _ => vts_nil) (fun _ _ _ _ _ => (ve_tup (va_cons (ve_var 15) (va_cons ve_int va_nil))))) (va_cons (ve_tup (va_cons ve_str (va_cons ve_int va_nil))) va_nil))) va_nil)))))) nd) (vss_cons (vs_set 11 (ve_add (ve_var 11) (ve_lst (va_cons (ve_tup (va_cons (ve_tup (va_cons (ve_tup (va_cons ve_int (va_cons ve_int va_nil))) (va_cons (ve_tup (va_cons ve_int (va_cons ve_int va_nil))) va_nil))) (va_cons (ve_tup (va_cons ve_str (va_cons ve_int va_nil))) va_nil))) (va_cons (ve_tup (va_cons (ve_tup (va_cons (ve_tup (va_cons ve_int (va_cons ve_int va_nil))) (va_cons (ve_tup (va_cons ve_int (va_cons ve_int va_nil))) (va_cons (ve_tup (va_cons ve_int (va_cons ve_int va_nil))) va_nil)))) (va_cons (ve_tup (va_cons ve_str (va_cons ve_int va_nil))) va_nil))) va_nil)))) nd) (vss_one (vs_ret (ve_vc (vc_eq (Rm.of hr) (ve_lc (own := [("one", 14)]) (vi_seq (ve_var 11)) hr.hd (by rfl) nd (blk_of (by kernel_rfl)) (by decide) (fun _ _ _ _ _ => (vg_name 14 nd)) (fun _ _ _ _ _ => (fun tk => (vts_one (vt_not (vt_val (ve_call (fc__law_refused_row z) hr (by decide) tk (va_cons (ve_call (fc__law_raised z) hr (by decide) tk (va_cons (ve_sub1 (ve_var 14) ve_int) va_nil) (by rfl)) (va_cons (ve_sub1 (ve_var 14) ve_int) va_nil)) (by rfl)))))) takes_W0) (fun _ _ _ _ _ => (ve_var 14))) (ve_lst va_nil)))))))))))))))))) sc_law.nd
theorem fc_law {w : World} {K : PySem.W.Frag} {mg : Str → Option Value} {base : Heap} (z : Ax K mg base) : FCal PySem.Challenge.pw_hammerkept_k00_whole_ladders w K mg base 9 "law" p_law := fcalD (z.c.d.def_ 16 rfl) (g_law z) sc_law (fun _ _ _ _ _ _ us hl => match us, hl with | [_], _ => rfl) (d_law z)
/-! ### the head -/
def loose0 : List Str := ["__name__", "HammerError", "BadItem", "TooMany", "is_whole", "is_number", "is_row", "frozen", "want_row", "MOST_STEPS", "MOST_BID", "is_step", "Ladder", "_law_taken", "_law_pick", "_law_alike", "_law_mixed", "_law_truth", "_law_whole", "_law_refused_row", "_law_steps", "_law_bids", "_law_raised"]
abbrev loose : List Str := loose0
abbrev Rw : PySem.W.OpenRow := PySem.W.OpenLaw.row PySem.Challenge.rw_hammerkept_k00_whole_ladders
abbrev hk : PySem.W.Hook := hookV 6 hd
def ob (s : PySem.W.SharedT) : AlV := obsVG 6 hd (HandSHeadRun.getT s)
theorem ob_eq (s : PySem.W.SharedT) : ob s = hk.obs s.abs := obsVG_eq (HandSHeadRun.getT_eq s)
theorem run (w : World) : HandSHeadRun.RunEq Rw (PySem.W.view Rw.prog [26]) hk ob 3000 loose w := by
  intro os
  kernel_rfl
end Wk00
set_option Elab.async false
set_option linter.all false
set_option maxRecDepth 100000
set_option maxHeartbeats 2000000
/-! Vs1: reads and writes of an object of the def's own, ==, and the drawing of a number from the script. -/
namespace Vl
open PySem PySem.Spec PyProof.Rows L2 Vx
section
variable (M : Mem) (e : En) (f g h : EF)
@[simp] theorem x_ixO (k : Nat) (i : Int) : opIx (.obj k) (.d (.int i)) M = match M[k]? with
  | some (.lst l) => (match atI l i with
    | some x => .ok (.d x) M
    | none => .bad)
  | _ => .bad := by
  show (match rdS M (.obj k) with | some l => (match atI l i with | some x => R.ok (Val.d x) M | none => .bad) | none => .bad) = _
  unfold rdS rdT rdL plL
  dsimp only
  cases M[k]? with
  | none => rfl
  | some o => cases o <;> rfl
@[simp] theorem x_putL (x : D) (k : Nat) (n : Int) : putL (.d x) (.obj k) (.d (.int n)) M = match M[k]? with
  | some (.lst l) => (match ixN l.length n with
    | some j => some (M.set k (.lst (l.set j x)))
    | none => none)
  | _ => none := by
  unfold putL
  dsimp only
  all_goals (cases M[k]? with
    | none => rfl
    | some o => cases o <;> rfl)
@[simp] theorem x_sSetL : sSetL f g h e M = rO (h e M) e fun v M1 => rO (f e M1) e fun o M2 => rO (g e M2) e fun i M3 => match putL v o i M3 with
  | some M4 => .nx e M4
  | none => .bad := rfl
@[simp] theorem x_eqI (i j : Int) : opEq (.d (.int i)) (.d (.int j)) M = .ok (.d (.bl (decide (i = j)))) M := by
  show (if SeqAt.shaped (.int i) = true ∧ SeqAt.shaped (.int j) = true then R.ok (Val.d (.bl (PyData.eqv (.int i) (.int j)))) M else .bad) = _
  rw [if_pos ⟨rfl, rfl⟩]
  simp [PyData.eqv]
  rfl
@[simp] theorem x_eqBl (i j : Bool) : opEq (.d (.bl i)) (.d (.bl j)) M = .ok (.d (.bl (decide (i = j)))) M := by cases i <;> cases j <;> rfl
@[simp] theorem x_neBl (i j : Bool) : opNe (.d (.bl i)) (.d (.bl j)) M = .ok (.d (.bl (!decide (i = j)))) M := by cases i <;> cases j <;> rfl
@[simp] theorem x_neI (i j : Int) : opNe (.d (.int i)) (.d (.int j)) M = .ok (.d (.bl (!decide (i = j)))) M := by
  show (if SeqAt.shaped (.int i) = true ∧ SeqAt.shaped (.int j) = true then R.ok (Val.d (.bl (!PyData.eqv (.int i) (.int j)))) M else .bad) = _
  rw [if_pos ⟨rfl, rfl⟩]
  simp [PyData.eqv]
  rfl
end
@[simp] theorem x_big : big = 16777216 := rfl
/-! ### drawing -/
noncomputable def takenF : SF := (sSeq (sIf (asB (fOp opGt (fOp opIx (fVar 0) (fC (.int 3))) (fC (.int 0)))) (sSeq (sSet 3 (fOp opMod (fun e M => rbind ((fCons (fOp opIx (fVar 0) (fC (.int 3))) fNil) e M) bInt) (fVar 1)))
  (sSeq (sSetL (fVar 0) (fC (.int 3)) (fOp opFdiv (fOp opIx (fVar 0) (fC (.int 3))) (fVar 1)))
  (sRet (fVar 3)))) sNil)
  (sSeq (sSetL (fVar 0) (fC (.int 1)) (fOp opAdd (fOp opIx (fVar 0) (fC (.int 1))) (fC (.int 1))))
  (sSeq (sIf (asB (fOp opGt (fOp opIx (fVar 0) (fC (.int 1))) (fun e M => rbind ((fCons (fOp opIx (fVar 0) (fC (.int 0))) fNil) e M) bLen))) (sSeq (sSetL (fVar 0) (fC (.int 2)) (fOp opMod (fun e M => rbind ((fCons (fOp opAdd (fOp opMul (fOp opIx (fVar 0) (fC (.int 2))) (fC (.int 48271))) (fC (.int 11))) fNil) e M) bInt) (fC (.int 2147483647))))
  (sRet (fOp opMod (fun e M => rbind ((fCons (fOp opFdiv (fOp opIx (fVar 0) (fC (.int 2))) (fC (.int 7))) fNil) e M) bInt) (fVar 1)))) sNil)
  (sSeq (sSet 2 (fOp opIx (fOp opIx (fVar 0) (fC (.int 0))) (fOp opSub (fOp opIx (fVar 0) (fC (.int 1))) (fC (.int 1)))))
  (sSeq (sSetL (fVar 0) (fC (.int 2)) (fOp opMod (fun e M => rbind ((fCons (fOp opAdd (fOp opAdd (fOp opMul (fOp opIx (fVar 0) (fC (.int 2))) (fC (.int 48271))) (fVar 2)) (fC (.int 11))) fNil) e M) bInt) (fC (.int 2147483647))))
  (sSeq (sIf (asB (fOp opGe (fVar 2) (fOp opPow (fC (.int 10)) (fC (.int 18))))) (sSetL (fVar 0) (fC (.int 3)) (fOp opFdiv (fVar 2) (fVar 1))) sNil)
  (sRet (fOp opMod (fun e M => rbind ((fCons (fVar 2) fNil) e M) bInt) (fVar 1)))))))))
/-- the row of the draws: the script, how many are read, the seed, the rest -/
def rowO (ns : List Int) (b c d : Int) : MO := .lst [.scr ns, .int b, .int c, .int d]
@[simp] theorem at4_0 (a b c d : D) : atI [a, b, c, d] 0 = some a := rfl
@[simp] theorem at4_1 (a b c d : D) : atI [a, b, c, d] 1 = some b := rfl
@[simp] theorem at4_2 (a b c d : D) : atI [a, b, c, d] 2 = some c := rfl
@[simp] theorem at4_3 (a b c d : D) : atI [a, b, c, d] 3 = some d := rfl
@[simp] theorem ix4_0 : ixN 4 0 = some 0 := rfl
@[simp] theorem ix4_1 : ixN 4 1 = some 1 := rfl
@[simp] theorem ix4_2 : ixN 4 2 = some 2 := rfl
@[simp] theorem ix4_3 : ixN 4 3 = some 3 := rfl
theorem cmul_r {i j : Int} (h : -(2 ^ 64) < j ∧ j < 2 ^ 64) : CMul i j := .inr h
theorem cmul_seed (i : Int) : CMul i 48271 := .inr (by decide)
theorem atI_in {α : Type} {l : List α} {i : Int} (h0 : 0 ≤ i) (h1 : i < l.length) : ∃ x, atI l i = some x ∧ x ∈ l := by
  have h2 : i.toNat < l.length := by omega
  refine ⟨l[i.toNat], ?_, List.getElem_mem h2⟩
  unfold atI ixN
  rw [if_pos h0, if_pos h1, Option.bind_some, List.getElem?_eq_getElem h2]
theorem taken_ok {M : Mem} {k : Nat} {ns : List Int} {b c d m : Int} (hM : M[k]? = some (rowO ns b c d)) (hb : 0 ≤ b) (h0 : 0 < m) (h1 : m < 1073741824) :
    ∃ r b' c' d', 0 ≤ r ∧ r < m ∧ 0 ≤ b' ∧ phi 4 2 takenF [.obj k, .d (.int m)] M = .ok (.d (.int r)) (M.set k (rowO ns b' c' d')) := by
  have hk : k < M.length := by
    rcases Nat.lt_or_ge k M.length with h | h
    · exact h
    · rw [List.getElem?_eq_none h] at hM
      cases hM
  have hcd : CDiv d m := ⟨h0, h1⟩
  have e : ∀ o, (M.set k o)[k]? = some o := fun o => List.getElem?_set_self hk
  unfold rowO at hM
  by_cases hd : 0 < d
  · refine ⟨d % m, b, c, d / m, Int.emod_nonneg _ (by omega), Int.emod_lt_of_pos _ h0, hb, (x_call rfl (v := .d (.int (d % m))) ?_).trans (x_finish _ _ _ (by rw [List.length_set]))⟩
    simp [takenF, env0, hM, hd, h0, hcd, rowO]
  · by_cases hl : b + 1 > ns.length
    · refine ⟨(c * 48271 + 11) % 2147483647 / 7 % m, b + 1, (c * 48271 + 11) % 2147483647, d, Int.emod_nonneg _ (by omega), Int.emod_lt_of_pos _ h0, by omega, (x_call rfl (v := .d (.int ((c * 48271 + 11) % 2147483647 / 7 % m))) ?_).trans (x_finish _ _ _ (by rw [List.length_set]))⟩
      have hc7 : ∀ i, CDiv i 7 := fun i => ⟨by decide, by decide⟩
      simp [takenF, env0, hM, e, hd, hl, h0, hcd, rowO, cmul_seed, hc7]
    · obtain ⟨x, ex, hx⟩ := atI_in (l := ns.map D.int) (i := b + 1 - 1) (by omega) (by rw [List.length_map]; omega)
      obtain ⟨cell, hc, rfl⟩ := List.mem_map.mp hx
      have hp : CPow 10 18 := ⟨by decide, by decide, by decide⟩
      have hcm : CDiv cell m := ⟨h0, h1⟩
      have hs : b + 1 - 1 = b := by omega
      rw [hs] at ex
      by_cases hbig : (1000000000000000000 : Int) ≤ cell
      · refine ⟨cell % m, b + 1, (c * 48271 + cell + 11) % 2147483647, cell / m, Int.emod_nonneg _ (by omega), Int.emod_lt_of_pos _ h0, by omega, (x_call rfl (v := .d (.int (cell % m))) ?_).trans (x_finish _ _ _ (by rw [List.length_set]))⟩
        simp [takenF, env0, hM, e, hd, hl, h0, hcm, rowO, cmul_seed, ex, hp, hbig, hs]
      · refine ⟨cell % m, b + 1, (c * 48271 + cell + 11) % 2147483647, d, Int.emod_nonneg _ (by omega), Int.emod_lt_of_pos _ h0, by omega, (x_call rfl (v := .d (.int (cell % m))) ?_).trans (x_finish _ _ _ (by rw [List.length_set]))⟩
        simp [takenF, env0, hM, e, hd, hl, h0, hcm, rowO, cmul_seed, ex, hp, hbig, hs]
noncomputable def pickF : SF := (sRet (fOp opIx (fVar 1) (fCall (phi 4 2 takenF) (fCons (fVar 0) (fCons (fun e M => rbind ((fCons (fVar 1) fNil) e M) bLen) fNil)))))
theorem pick_ok {M : Mem} {k : Nat} {ns : List Int} {b c d : Int} {l : List D} (hM : M[k]? = some (rowO ns b c d)) (hb : 0 ≤ b) (h0 : 0 < l.length) (h1 : l.length < 1073741824) :
    ∃ x b' c' d', x ∈ l ∧ 0 ≤ b' ∧ phi 2 2 pickF [.obj k, .d (.lst l)] M = .ok (.d x) (M.set k (rowO ns b' c' d')) := by
  obtain ⟨r, b', c', d', r0, r1, hb', e⟩ := taken_ok (m := (l.length : Int)) hM hb (by omega) (by omega)
  obtain ⟨x, ex, hx⟩ := atI_in r0 r1
  refine ⟨x, b', c', d', hx, hb', (x_call rfl (v := .d x) ?_).trans (x_finish _ _ _ (by rw [List.length_set]))⟩
  simp [pickF, env0, e, ex]
theorem pick_ok_t {M : Mem} {k : Nat} {ns : List Int} {b c d : Int} {l : List D} (hM : M[k]? = some (rowO ns b c d)) (hb : 0 ≤ b) (h0 : 0 < l.length) (h1 : l.length < 1073741824) :
    ∃ x b' c' d', x ∈ l ∧ 0 ≤ b' ∧ phi 2 2 pickF [.obj k, .d (.tup l)] M = .ok (.d x) (M.set k (rowO ns b' c' d')) := by
  obtain ⟨r, b', c', d', r0, r1, hb', e⟩ := taken_ok (m := (l.length : Int)) hM hb (by omega) (by omega)
  obtain ⟨x, ex, hx⟩ := atI_in r0 r1
  refine ⟨x, b', c', d', hx, hb', (x_call rfl (v := .d x) ?_).trans (x_finish _ _ _ (by rw [List.length_set]))⟩
  simp [pickF, env0, e, ex]
/-! ### two answers alike -/
abbrev cN (_ : Str) : Option Bool := none
noncomputable def alikeLC (φ : List Val → Mem → R Val) : EF := (fLc (iRng1' (fCons (fun e M => rbind ((fCons (fVar 1) fNil) e M) bLen) fNil)) (tName 2) (bNot (asT (fCall φ (fCons (fOp opIx (fVar 0) (fVar 2)) (fCons (fOp opIx (fVar 1) (fVar 2)) fNil))))) (fVar 2) [2])
noncomputable def alikeG (lc : EF) : SF := (sSeq (sIf (asT (fIsi (fun n => isB "tuple" n || isB "list" n) (fun _ => none) (fVar 1))) (sSeq (sIf (bOr (bNot (asT (fIsi (fun n => isB "tuple" n || isB "list" n) (fun _ => none) (fVar 0)))) (asB (fOp opNe (fIsi (isB "list") cN (fVar 0)) (fIsi (isB "list") cN (fVar 1))))) (sRet (fC (.bl false))) sNil)
  (sSeq (sIf (asB (fOp opNe (fun e M => rbind ((fCons (fVar 0) fNil) e M) bLen) (fun e M => rbind ((fCons (fVar 1) fNil) e M) bLen))) (sRet (fC (.bl false))) sNil)
  (sRet (fOp opEq lc (fLst fNil))))) sNil)
  (sSeq (sIf (bOr (asB (fIsN false (fVar 1))) (asT (fIsi (isB "str") cN (fVar 1)))) (sRet (fAnd (fOp opEq (fVar 0) (fVar 1)) (fOp opEq (fIsi (isB "str") cN (fVar 0)) (fIsi (isB "str") cN (fVar 1))))) sNil)
  (sRet (fAnd (fIsi (isB "int") cN (fVar 0)) (fAnd (fOp opEq (fIsi (isB "bool") cN (fVar 0)) (fIsi (isB "bool") cN (fVar 1))) (fOp opEq (fVar 0) (fVar 1)))))))
theorem x_rng1 {fs : En → Mem → R (List Val)} {e : En} {M M1 : Mem} {j : Int} (h : fs e M = .ok [.d (.int j)] M1) (hj : smallI j) : iRng1' fs e M = .ok (ivRng 0 j.toNat) M1 := by
  unfold iRng1'
  rw [h]
  exact if_pos hj
theorem small_nat {n : Nat} (h : n ≤ big) : smallI (n : Int) := by
  have h : n ≤ 16777216 := h
  unfold smallI
  constructor <;> omega
theorem x_eqE (M : Mem) : opEq (.d (.lst [])) (.d (.lst [])) M = .ok (.d (.bl true)) M := rfl
theorem eq_str (z : Str) (h : SeqAt.shaped (.str z) = true) (M : Mem) : opEq (.d (.str z)) (.d (.str z)) M = .ok (.d (.bl true)) M := by
  unfold opEq
  rw [if_pos ⟨h, h⟩]
  simp [pyOf, toPy, PyData.eqv]
section
variable {lc : EF} {M : Mem} {φ : List Val → Mem → R Val}
theorem alike_i (i : Int) : phi 3 2 (alikeG lc) [.d (.int i), .d (.int i)] M = .ok (.d (.bl true)) M := by
  refine (x_call rfl (v := .d (.bl true)) (M' := M) ?_).trans (x_finish _ _ _ rfl)
  simp [alikeG, env0, isB]
theorem alike_b (i : Bool) : phi 3 2 (alikeG lc) [.d (.bl i), .d (.bl i)] M = .ok (.d (.bl true)) M := by
  refine (x_call rfl (v := .d (.bl true)) (M' := M) ?_).trans (x_finish _ _ _ rfl)
  simp [alikeG, env0, isB]
theorem alike_n : phi 3 2 (alikeG lc) [.d .non, .d .non] M = .ok (.d (.bl true)) M := by
  refine (x_call rfl (v := .d (.bl true)) (M' := M) ?_).trans (x_finish _ _ _ rfl)
  have : opEq (.d .non) (.d .non) M = .ok (.d (.bl true)) M := rfl
  simp [alikeG, env0, isB, this]
theorem alike_s (z : Str) (h : SeqAt.shaped (.str z) = true) : phi 3 2 (alikeG lc) [.d (.str z), .d (.str z)] M = .ok (.d (.bl true)) M := by
  refine (x_call rfl (v := .d (.bl true)) (M' := M) ?_).trans (x_finish _ _ _ rfl)
  simp [alikeG, env0, isB, eq_str z h]
theorem alikeG_l {l : List D} (h : lc [some (.d (.lst l)), some (.d (.lst l)), none] M = .ok (.d (.lst [])) M) : phi 3 2 (alikeG lc) [.d (.lst l), .d (.lst l)] M = .ok (.d (.bl true)) M := by
  refine (x_call rfl (v := .d (.bl true)) (M' := M) ?_).trans (x_finish _ _ _ rfl)
  simp [alikeG, env0, isB, h, x_eqE]
theorem alikeG_t {l : List D} (h : lc [some (.d (.tup l)), some (.d (.tup l)), none] M = .ok (.d (.lst [])) M) : phi 3 2 (alikeG lc) [.d (.tup l), .d (.tup l)] M = .ok (.d (.bl true)) M := by
  refine (x_call rfl (v := .d (.bl true)) (M' := M) ?_).trans (x_finish _ _ _ rfl)
  simp [alikeG, env0, isB, h, x_eqE]
theorem alikeLC_l {l : List D} (hl : l.length ≤ big) (h : ∀ x ∈ l, φ [.d x, .d x] M = .ok (.d (.bl true)) M) : alikeLC φ [some (.d (.lst l)), some (.d (.lst l)), none] M = .ok (.d (.lst [])) M := by
  have hi := x_rng1 (fs := fCons (fun e M => rbind ((fCons (fVar 1) fNil) e M) bLen) fNil) (e := [some (.d (.lst l)), some (.d (.lst l)), none]) (M := M) (M1 := M) (j := (l.length : Int)) rfl (small_nat hl)
  rw [Int.toNat_natCast] at hi
  have key := x_fLc (t := tName 2) (ts := bNot (asT (fCall φ (fCons (fOp opIx (fVar 0) (fVar 2)) (fCons (fOp opIx (fVar 1) (fVar 2)) fNil))))) (el := fVar 2) (vs := [2]) hi trivial (by show (rngD 0 l.length).length ≤ big; rw [rngD_length]; exact hl) (fun x => [some (.d (.lst l)), some (.d (.lst l)), some (.d x)]) (fun _ => false) (fun x => x) (fun x hx => rfl) (fun x hx => by
    obtain ⟨i, hi, rfl⟩ := List.mem_map.mp hx
    have hi2 : i < l.length := List.mem_range.mp hi
    obtain ⟨y, ey, hy⟩ := atI_in (l := l) (i := 0 + (i : Int)) (by omega) (by omega)
    rw [Int.zero_add] at ey
    simp [ey, h y hy]) (fun x hx z => nomatch z)
  have e0 : (ivRng 0 l.length).l.filter (fun _ => false) = [] := by simp
  rw [e0] at key
  exact key
theorem alikeLC_t {l : List D} (hl : l.length ≤ big) (h : ∀ x ∈ l, φ [.d x, .d x] M = .ok (.d (.bl true)) M) : alikeLC φ [some (.d (.tup l)), some (.d (.tup l)), none] M = .ok (.d (.lst [])) M := by
  have hi := x_rng1 (fs := fCons (fun e M => rbind ((fCons (fVar 1) fNil) e M) bLen) fNil) (e := [some (.d (.tup l)), some (.d (.tup l)), none]) (M := M) (M1 := M) (j := (l.length : Int)) rfl (small_nat hl)
  rw [Int.toNat_natCast] at hi
  have key := x_fLc (t := tName 2) (ts := bNot (asT (fCall φ (fCons (fOp opIx (fVar 0) (fVar 2)) (fCons (fOp opIx (fVar 1) (fVar 2)) fNil))))) (el := fVar 2) (vs := [2]) hi trivial (by show (rngD 0 l.length).length ≤ big; rw [rngD_length]; exact hl) (fun x => [some (.d (.tup l)), some (.d (.tup l)), some (.d x)]) (fun _ => false) (fun x => x) (fun x hx => rfl) (fun x hx => by
    obtain ⟨i, hi, rfl⟩ := List.mem_map.mp hx
    have hi2 : i < l.length := List.mem_range.mp hi
    obtain ⟨y, ey, hy⟩ := atI_in (l := l) (i := 0 + (i : Int)) (by omega) (by omega)
    rw [Int.zero_add] at ey
    simp [ey, h y hy]) (fun x hx z => nomatch z)
  have e0 : (ivRng 0 l.length).l.filter (fun _ => false) = [] := by simp
  rw [e0] at key
  exact key
end
end Vl
set_option Elab.async false
set_option linter.all false
set_option maxRecDepth 100000
set_option maxHeartbeats 2000000
/-! Vs2: loops and comprehensions with an invariant. -/
namespace Vl
open PySem PySem.Spec PyProof.Rows L2 Vx
/-- what one round leaves: the invariant of the rest, or the loop's end -/
def stepO (P : En → Mem → Prop) (Q : O → Prop) : O → Prop
  | .nx e M => P e M
  | .ct e M => P e M
  | .bk e M => Q (.nx e M)
  | .rt v M => Q (.rt v M)
  | .er x e M => Q (.er x e M)
  | .bad => False
section
variable {chk : Mem → Prop} {tg : D → En → Option En} {body : SF} {Q : O → Prop}
theorem x_forQ {P : List D → En → Mem → Prop} (step : ∀ x r e M, P (x :: r) e M → chk M ∧ ∃ e1, tg x e = some e1 ∧ stepO (P r) Q (body e1 M)) (fin : ∀ e M, P [] e M → chk M ∧ Q (.nx e M)) :
    ∀ (l : List D) (e : En) (M : Mem), P l e M → Q (forF chk tg body l e M)
  | [], e, M, h => by
    obtain ⟨hc, hq⟩ := fin e M h
    rw [forF]
    simp only [hc, if_true]
    exact hq
  | x :: r, e, M, h => by
    obtain ⟨hc, e1, ht, hs⟩ := step x r e M h
    rw [forF]
    simp only [hc, if_true, ht]
    revert hs
    cases hb : body e1 M with
    | nx e2 M2 => exact fun hs => x_forQ step fin r e2 M2 hs
    | ct e2 M2 => exact fun hs => x_forQ step fin r e2 M2 hs
    | bk e2 M2 => exact fun hs => hs
    | rt v M2 => exact fun hs => hs
    | er x e2 M2 => exact fun hs => hs
    | bad => exact fun hs => hs.elim
/-- every round goes on -/
theorem x_forP {P : List D → En → Mem → Prop} (step : ∀ x r e M, P (x :: r) e M → chk M ∧ ∃ e1, tg x e = some e1 ∧ ∃ e2 M2, body e1 M = .nx e2 M2 ∧ P r e2 M2) (fin : ∀ e M, P [] e M → chk M) (l : List D) (e : En) (M : Mem) (h : P l e M) :
    ∃ e2 M2, forF chk tg body l e M = .nx e2 M2 ∧ P [] e2 M2 :=
  x_forQ (Q := fun o => ∃ e2 M2, o = .nx e2 M2 ∧ P [] e2 M2) (fun x r e M h => by
    obtain ⟨hc, e1, ht, e2, M2, hb, hp⟩ := step x r e M h
    exact ⟨hc, e1, ht, by rw [hb]; exact hp⟩) (fun e M h => ⟨fin e M h, e, M, rfl, h⟩) l e M h
end
inductive All2 {α β : Type} (R : α → β → Prop) : List α → List β → Prop
  | nil : All2 R [] []
  | cons {x y xs ys} : R x y → All2 R xs ys → All2 R (x :: xs) (y :: ys)
theorem All2.len {α β : Type} {R : α → β → Prop} {xs : List α} {ys : List β} (h : All2 R xs ys) : ys.length = xs.length := by
  induction h with
  | nil => rfl
  | cons _ _ ih => rw [List.length_cons, List.length_cons, ih]
theorem All2.map_eq {α β γ : Type} {R : α → β → Prop} {xs : List α} {ys : List β} {f : α → γ} {g : β → γ} (h : All2 R xs ys) (e : ∀ x y, R x y → g y = f x) : ys.map g = xs.map f := by
  induction h with
  | nil => rfl
  | cons r _ ih => rw [List.map_cons, List.map_cons, e _ _ r, ih]
section
variable {chk : Mem → Prop} {t : D → En → Option En} {ts : BF} {el : EF} {e : En} {P : Mem → Prop} {Rl : D → D → Prop}
/-- a comprehension without a test, whose item changes the store -/
theorem x_lcS (hc : ∀ M, P M → chk M) : ∀ {l : List D} (h : ∀ x ∈ l, ∀ M, P M → ∃ e1, t x e = some e1 ∧ ts e1 M = .ok true M ∧ ∃ y M2, el e1 M = .ok (.d y) M2 ∧ P M2 ∧ Rl x y) (M : Mem) (_ : P M), ∃ ys M2, lcF chk t ts el e l M = .ok ys M2 ∧ P M2 ∧ All2 Rl l ys
  | [], h, M, p => ⟨[], M, by rw [lcF]; simp only [hc M p, if_true], p, .nil⟩
  | x :: l, h, M, p => by
    obtain ⟨e1, h1, h2, y, M2, h3, p2, r⟩ := h x List.mem_cons_self M p
    obtain ⟨ys, M3, h4, p3, r2⟩ := x_lcS hc (fun z hz => h z (List.mem_cons_of_mem _ hz)) M2 p2
    refine ⟨y :: ys, M3, ?_, p3, .cons r r2⟩
    rw [lcF]
    simp only [hc M p, if_true, h1, h2, h3, lcPut, h4]
theorem x_fLcS {fi : En → Mem → R Iv} {vs : List Nat} {M M1 : Mem} {v : Iv} (hi : fi e M = .ok v M1) (hb : v.l.length ≤ big) (hc : ∀ M, P M → v.chk M) (h : ∀ x ∈ v.l, ∀ M, P M → ∃ e1, t x (wipeE e vs) = some e1 ∧ ts e1 M = .ok true M ∧ ∃ y M2, el e1 M = .ok (.d y) M2 ∧ P M2 ∧ Rl x y) (p : P M1) :
    ∃ ys M2, fLc fi t ts el vs e M = .ok (.d (.lst ys)) M2 ∧ P M2 ∧ All2 Rl v.l ys := by
  obtain ⟨ys, M2, e2, p2, r⟩ := x_lcS hc h M1 p
  refine ⟨ys, M2, ?_, p2, r⟩
  unfold fLc
  rw [hi]
  dsimp only
  rw [if_pos hb, e2]
end
/-! ### a list of the def's own, handed out -/
theorem x_append {f g : EF} {e : En} {M M1 M2 : Mem} {k : Nat} {l l2 : List D} {x : D} (hf : f e M = .ok (.obj k) M1) (h1 : M1[k]? = some (.lst l)) (hg : g e M1 = .ok (.d x) M2) (h2 : M2[k]? = some (.lst l2)) (hl : l2.length < big) : fAppend f g e M = .ok (.d .non) (M2.set k (.lst (l2 ++ [x]))) := by
  unfold fAppend
  rw [hf, rbind_ok]
  have e1 : isLstO M1 (.obj k) = true := by
    unfold isLstO
    dsimp only
    rw [h1]
  rw [if_pos e1, hg, rbind_ok]
  unfold opAppend
  dsimp only
  rw [h2]
  dsimp only
  rw [if_pos hl]
theorem x_finishO {M0 J : Mem} {l : List D} : finish M0 (.obj M0.length) (M0 ++ (.lst l :: J)) = .ok (.d (.lst l)) M0 := by
  unfold finish
  rw [if_neg (by simp), if_pos (x_okcut rfl fun k o e => .inl e)]
  unfold cutV'
  dsimp only
  rw [if_neg (Nat.lt_irrefl _), List.getElem?_append_right (Nat.le_refl _), Nat.sub_self]
  dsimp only [List.getElem?_cons_zero]
  rw [List.take_left]
end Vl
set_option Elab.async false
set_option linter.all false
/-! Pk00: ladders of bids, no program. -/
namespace Pk
abbrev St := Int × Int
/-- the step in which x stands -/
def at_ (ps : List St) (x : Int) : Option St := (ps.filter fun p => decide (p.1 ≤ x)).getLast?
/-- the rest of a ladder after the step q -/
inductive Chain : St → List St → Prop
  | nil {q} : 0 < q.2 → Chain q []
  | cons {q p r} : 0 < q.2 → q.1 < p.1 → (p.1 - q.1) % q.2 = 0 → Chain p r → Chain q (p :: r)
theorem Chain.pos {q : St} {r : List St} (h : Chain q r) : 0 < q.2 := by cases h <;> assumption
theorem Chain.above {q : St} {r : List St} (h : Chain q r) : ∀ p ∈ r, q.1 < p.1 := by
  induction h with
  | nil _ => intro p hp; cases hp
  | cons h0 h1 _ _ ih =>
    intro p hp
    cases hp with
    | head => exact h1
    | tail _ hp => exact Int.lt_trans h1 (ih p hp)
theorem filt_none {r : List St} {x : Int} (h : ∀ p ∈ r, x < p.1) : (r.filter fun p => decide (p.1 ≤ x)) = [] := by
  rw [List.filter_eq_nil_iff]
  intro p hp
  have := h p hp
  simp
  omega
/-- x stands in the step q of the chain q :: r, or in the rest -/
theorem at_here {q : St} {r : List St} {x : Int} (h : Chain q r) (h0 : q.1 ≤ x) (h1 : ∀ p ∈ r.head?, x < p.1) : at_ (q :: r) x = some q := by
  unfold at_
  have hr : (r.filter fun p => decide (p.1 ≤ x)) = [] := by
    cases h with
    | nil _ => rfl
    | @cons _ p r _ h2 _ h3 =>
      have hp := h1 p rfl
      apply filt_none
      intro z hz
      cases hz with
      | head => exact hp
      | tail _ hz => exact Int.lt_trans hp (h3.above z hz)
  rw [List.filter_cons_of_pos (by simpa using h0), hr]
  rfl
theorem at_next {q p : St} {r : List St} {x : Int} (h0 : q.1 ≤ x) (h1 : p.1 ≤ x) : at_ (q :: p :: r) x = at_ (p :: r) x := by
  unfold at_
  rw [List.filter_cons_of_pos (by simpa using h0), List.filter_cons_of_pos (by simpa using h1), List.getLast?_cons_cons]
/-- what is known of the step q in which x stands: o is the step after it -/
structure Seg (ps : List St) (x : Int) (q : St) (o : Option St) : Prop where
  pos : 0 < q.2
  low : q.1 ≤ x
  here : ∀ y, q.1 ≤ y → (∀ p, o = some p → y < p.1) → at_ ps y = some q
  next : ∀ p, o = some p → q.1 < p.1 ∧ (p.1 - q.1) % q.2 = 0 ∧ x < p.1 ∧ at_ ps p.1 = some p
theorem seg_of : ∀ {r : List St} {q0 : St} {x : Int}, Chain q0 r → q0.1 ≤ x → ∃ q o, at_ (q0 :: r) x = some q ∧ Seg (q0 :: r) x q o
  | [], q0, x, h, hx => ⟨q0, none, at_here h hx (fun p hp => by cases hp), h.pos, hx, fun y hy _ => at_here h hy (fun p hp => by cases hp), fun p hp => by cases hp⟩
  | p :: r, q0, x, h, hx => by
    cases h with
    | cons h0 h1 h2 h3 =>
      by_cases hp : p.1 ≤ x
      · obtain ⟨q, o, e, s⟩ := seg_of h3 hp
        have up : ∀ y, p.1 ≤ y → at_ (q0 :: p :: r) y = at_ (p :: r) y := fun y hy => at_next (Int.le_trans (Int.le_of_lt h1) hy) hy
        have qp : p.1 ≤ q.1 := by
          have hq : q ∈ (p :: r).filter fun z => decide (z.1 ≤ x) := List.mem_of_getLast? e
          have hq := (List.mem_filter.mp hq).1
          cases hq with
          | head => exact Int.le_refl _
          | tail _ hq => exact Int.le_of_lt (h3.above q hq)
        refine ⟨q, o, by rw [up x hp, e], s.pos, s.low, fun y hy hn => by rw [up y (Int.le_trans qp hy)]; exact s.here y hy hn, fun z hz => ?_⟩
        obtain ⟨a, b, c, d⟩ := s.next z hz
        exact ⟨a, b, c, by rw [up z.1 (Int.le_trans qp (Int.le_of_lt a))]; exact d⟩
      · have hp : x < p.1 := Int.not_le.mp hp
        have hc : Chain q0 (p :: r) := .cons h0 h1 h2 h3
        have one : ∀ y, q0.1 ≤ y → y < p.1 → at_ (q0 :: p :: r) y = some q0 := fun y hy hyp => at_here hc hy (fun z hz => by cases hz; exact hyp)
        refine ⟨q0, some p, one x hx hp, h0, hx, fun y hy hn => one y hy (hn p rfl), fun z hz => ?_⟩
        cases hz
        refine ⟨h1, h2, hp, ?_⟩
        rw [at_next (Int.le_of_lt h1) (Int.le_refl _)]
        exact at_here h3 (Int.le_refl _) (fun z hz => by
          cases h3 with
          | nil _ => cases hz
          | cons _ h4 _ _ => cases hz; exact h4)
def downB (q : St) (x : Int) : Int := q.1 + (x - q.1) / q.2 * q.2
def nextB (q : St) (x : Int) : Int := q.1 + ((x - q.1) / q.2 + 1) * q.2
theorem nextB_eq (q : St) (x : Int) : nextB q x = downB q x + q.2 := by
  unfold nextB downB
  rw [Int.add_mul, Int.one_mul, Int.add_assoc]
section
variable {ps : List St} {x y : Int} {q : St} {o : Option St}
theorem down_le (h : 0 < q.2) : downB q x ≤ x := by
  unfold downB
  have := Int.ediv_mul_le (x - q.1) (b := q.2) (by omega)
  omega
theorem lt_next (h : 0 < q.2) : x < nextB q x := by
  unfold nextB
  have := Int.lt_ediv_add_one_mul_self (x - q.1) h
  omega
theorem down_ge (h : 0 < q.2) (hx : q.1 ≤ x) : q.1 ≤ downB q x := by
  unfold downB
  have h1 := Int.ediv_nonneg (a := x - q.1) (b := q.2) (by omega) (by omega)
  have h2 := Int.mul_nonneg h1 (Int.le_of_lt h)
  omega
theorem same_k (h : 0 < q.2) (h0 : downB q x ≤ y) (h1 : y < nextB q x) : (y - q.1) / q.2 = (x - q.1) / q.2 := by
  unfold downB at h0
  unfold nextB at h1
  apply Int.le_antisymm
  · have := (Int.ediv_lt_iff_lt_mul h).mpr (show y - q.1 < ((x - q.1) / q.2 + 1) * q.2 by omega)
    omega
  · exact (Int.le_ediv_iff_mul_le h).mpr (by omega)
theorem next_le (s : Seg ps x q o) {p : St} (hp : o = some p) : nextB q x ≤ p.1 := by
  obtain ⟨_, hm, hx, _⟩ := s.next p hp
  have h1 : p.1 - q.1 = (p.1 - q.1) / q.2 * q.2 := by
    have := Int.mul_ediv_add_emod (p.1 - q.1) q.2
    rw [hm, Int.add_zero, Int.mul_comm] at this
    exact this.symm
  have h2 : (x - q.1) / q.2 < (p.1 - q.1) / q.2 := (Int.ediv_lt_iff_lt_mul s.pos).mpr (by rw [← h1]; omega)
  have h3 : ((x - q.1) / q.2 + 1) * q.2 ≤ (p.1 - q.1) / q.2 * q.2 := Int.mul_le_mul_of_nonneg_right (by omega) (Int.le_of_lt s.pos)
  unfold nextB
  omega
/-- the block of a bid -/
theorem block (s : Seg ps x q o) (h0 : downB q x ≤ y) (h1 : y < nextB q x) : at_ ps y = some q ∧ downB q y = downB q x ∧ nextB q y = nextB q x := by
  refine ⟨s.here y (Int.le_trans (down_ge s.pos s.low) h0) fun p hp => Int.lt_of_lt_of_le h1 (next_le s hp), ?_, ?_⟩
  · unfold downB
    rw [same_k s.pos h0 h1]
  · unfold nextB
    rw [same_k s.pos h0 h1]
/-- what follows a bid is a bid -/
theorem next_bid (s : Seg ps x q o) : ∃ q', at_ ps (nextB q x) = some q' ∧ downB q' (nextB q x) = nextB q x := by
  have hq : q.1 ≤ nextB q x := Int.le_trans s.low (Int.le_of_lt (lt_next s.pos))
  have self : downB q (nextB q x) = nextB q x := by
    have e : nextB q x - q.1 = ((x - q.1) / q.2 + 1) * q.2 := by unfold nextB; omega
    unfold downB
    rw [e, Int.mul_ediv_cancel _ (by have := s.pos; omega)]
    unfold nextB
    rfl
  cases o with
  | none => exact ⟨q, s.here _ hq (fun p hp => by cases hp), self⟩
  | some p =>
    obtain ⟨_, _, _, hat⟩ := s.next p rfl
    have hle := next_le s rfl
    by_cases e : nextB q x = p.1
    · refine ⟨p, by rw [e]; exact hat, ?_⟩
      unfold downB
      rw [e, Int.sub_self, Int.zero_ediv, Int.zero_mul, Int.add_zero]
    · exact ⟨q, s.here _ hq (fun z hz => by cases hz; omega), self⟩
end
/-! ### the bids -/
def stepOf (ps : List St) (h : Int) : Int := ((at_ ps h).map (·.2)).getD 0
def bidsF (ps : List St) (last : Int) : Nat → Int → List Int
  | 0, _ => []
  | n + 1, h => if h > last then [] else h :: bidsF ps last n (h + stepOf ps h)
/-- h is a bid of the ladder q0 :: r -/
def IsBid (ps : List St) (h : Int) : Prop := ∃ q, at_ ps h = some q ∧ downB q h = h
section
variable {q0 : St} {r : List St} {last h x : Int}
theorem bid_seg (hc : Chain q0 r) (hh : q0.1 ≤ h) (hb : IsBid (q0 :: r) h) : ∃ q o, at_ (q0 :: r) h = some q ∧ Seg (q0 :: r) h q o ∧ downB q h = h ∧ stepOf (q0 :: r) h = q.2 ∧ nextB q h = h + q.2 := by
  obtain ⟨q, e, hd⟩ := hb
  obtain ⟨q', o, e', s⟩ := seg_of hc hh
  rw [e] at e'
  cases e'
  refine ⟨q, o, e, s, hd, ?_, ?_⟩
  · unfold stepOf
    rw [e]
    rfl
  · rw [nextB_eq, hd]
theorem bidsF_ge (hc : Chain q0 r) : ∀ {n : Nat} {h : Int}, q0.1 ≤ h → IsBid (q0 :: r) h → ∀ b ∈ bidsF (q0 :: r) last n h, h ≤ b ∧ b ≤ last
  | 0, h, _, _, b, hb => by cases hb
  | n + 1, h, h0, hi, b, hb => by
    unfold bidsF at hb
    split at hb
    · cases hb
    · rename_i hl
      obtain ⟨q, o, e, s, hd, hst, hn⟩ := bid_seg hc h0 hi
      cases hb with
      | head => exact ⟨Int.le_refl _, by omega⟩
      | tail _ hb =>
        have hp := s.pos
        obtain ⟨q', e', hd'⟩ := next_bid s
        rw [hst, ← hn] at hb
        obtain ⟨h1, h2⟩ := bidsF_ge hc (by rw [hn]; omega) ⟨q', e', hd'⟩ b hb
        exact ⟨by rw [hn] at h1; omega, h2⟩
/-- the bids round x -/
theorem bids_round (hc : Chain q0 r) : ∀ {n : Nat} {h : Int}, q0.1 ≤ h → IsBid (q0 :: r) h → h ≤ x → (last - h).toNat < n → ∀ {q : St}, at_ (q0 :: r) x = some q → nextB q x ≤ last →
    ((bidsF (q0 :: r) last n h).filter fun b => decide (b ≤ x)).getLast? = some (downB q x) ∧ ((bidsF (q0 :: r) last n h).filter fun b => decide (x < b)).head? = some (nextB q x) ∧
    ((bidsF (q0 :: r) last n h).filter fun b => decide (x ≤ b)).head? = some (if downB q x = x then x else nextB q x) ∧ (x ∈ bidsF (q0 :: r) last n h ↔ downB q x = x)
  | 0, h, _, _, _, hf, _, _, _ => by omega
  | n + 1, h, h0, hi, hx, hf, q, e, hl => by
    obtain ⟨qh, o, eh, s, hd, hst, hn⟩ := bid_seg hc h0 hi
    have hpos := s.pos
    obtain ⟨q', e', hd'⟩ := next_bid s
    obtain ⟨qx, ox, ex, sx⟩ := seg_of hc (Int.le_trans h0 hx)
    rw [e] at ex
    cases ex
    have hxn := lt_next (x := x) sx.pos
    have hhl : ¬ h > last := by omega
    unfold bidsF
    rw [if_neg hhl, hst, ← hn]
    have hge := bidsF_ge (last := last) (n := n) hc (h := nextB qh h) (by rw [hn]; omega) ⟨q', e', hd'⟩
    by_cases hb : x < nextB qh h
    · obtain ⟨a, b, c⟩ := block s (y := x) (by rw [hd]; exact hx) hb
      rw [e] at a
      cases a
      rw [b, c, hd]
      have hB : ∀ z ∈ bidsF (q0 :: r) last n (nextB q h), x < z := fun z hz => Int.lt_of_lt_of_le hb (hge z hz).1
      rw [c] at hl
      have hhead : ∃ t, bidsF (q0 :: r) last n (nextB q h) = nextB q h :: t := by
        cases n with
        | zero => omega
        | succ n =>
          unfold bidsF
          rw [if_neg (by omega)]
          exact ⟨_, rfl⟩
      obtain ⟨t, ht⟩ := hhead
      refine ⟨?_, ?_, ?_, ?_⟩
      · rw [List.filter_cons_of_pos (by simpa using hx), List.filter_eq_nil_iff.mpr (fun z hz => by have := hB z hz; simp; omega)]
        rfl
      · rw [List.filter_cons_of_neg (by simp; omega), ht, List.filter_cons_of_pos (by simpa using hb)]
        rfl
      · by_cases hxh : h = x
        · rw [if_pos hxh, List.filter_cons_of_pos (by simp; omega)]
          simp [hxh]
        · rw [if_neg hxh, List.filter_cons_of_neg (by simp; omega), ht, List.filter_cons_of_pos (by simp; omega)]
          rfl
      · constructor
        · intro hm
          cases hm with
          | head => rfl
          | tail _ hm => exact absurd (hB x hm) (Int.lt_irrefl _)
        · intro hm
          rw [← hm]
          exact List.mem_cons_self
    · have hb' : nextB qh h ≤ x := Int.not_lt.mp hb
      obtain ⟨i1, i2, i3, i4⟩ := bids_round hc (n := n) (h := nextB qh h) (by rw [hn]; omega) ⟨q', e', hd'⟩ hb' (by rw [hn]; omega) e hl
      have hne : ¬ h = x := by omega
      refine ⟨?_, ?_, ?_, ?_⟩
      · rw [List.filter_cons_of_pos (by simpa using hx)]
        rw [List.getLast?_cons, i1]
        rfl
      · rw [List.filter_cons_of_neg (by simp; omega)]
        exact i2
      · rw [List.filter_cons_of_neg (by simp; omega)]
        exact i3
      · rw [← i4]
        constructor
        · intro hm
          cases hm with
          | head => exact absurd rfl hne
          | tail _ hm => exact hm
        · exact List.mem_cons_of_mem _
end
/-! ### rungs -/
def cnt (low e d : Int) : Int := if low < e then (e - 1 - low) / d + 1 else 0
def endOf (last : Int) (r : List St) : Int := match r with
  | [] => last + 1
  | p :: _ => min p.1 (last + 1)
def rg (here last : Int) : List St → Int
  | [] => 0
  | q :: r => cnt (max here q.1) (endOf last r) q.2 + rg here last r
theorem endOf_le {last : Int} {r : List St} : endOf last r ≤ last + 1 := by
  cases r with
  | nil => exact Int.le_refl _
  | cons p r => exact Int.min_le_right _ _
theorem cnt_zero {low e d : Int} (h : e ≤ low) : cnt low e d = 0 := by
  unfold cnt
  rw [if_neg (by omega)]
theorem cnt_step {low e d : Int} (hd : 0 < d) (h : low < e) : cnt low e d = 1 + cnt (low + d) e d := by
  unfold cnt
  rw [if_pos h]
  by_cases h2 : low + d < e
  · rw [if_pos h2]
    have e1 : e - 1 - low = (e - 1 - (low + d)) + 1 * d := by omega
    rw [e1, Int.add_mul_ediv_right _ _ (by omega)]
    omega
  · rw [if_neg h2, Int.ediv_eq_zero_of_lt (by omega) (by omega)]
    omega
theorem rg_zero {here last : Int} : ∀ {r : List St} (_ : ∀ p ∈ r, last < p.1), rg here last r = 0
  | [], _ => rfl
  | q :: r, h => by
    have h1 := h q List.mem_cons_self
    have h2 : max here q.1 ≥ q.1 := Int.le_max_right _ _
    have h3 := endOf_le (last := last) (r := r)
    unfold rg
    rw [cnt_zero (by omega), rg_zero fun p hp => h p (List.mem_cons_of_mem _ hp)]
    rfl
theorem cnt_ind {here h e d last : Int} (hd : 0 < d) (he : h < e ↔ h ≤ last) (hg : h < here → h + d ≤ here) : (if here ≤ h ∧ h ≤ last then 1 else 0) + cnt (max here (h + d)) e d = cnt (max here h) e d := by
  by_cases h1 : here ≤ h
  · have m1 : max here h = h := Int.max_eq_right h1
    have m2 : max here (h + d) = h + d := Int.max_eq_right (by omega)
    rw [m1, m2]
    by_cases h2 : h ≤ last
    · rw [if_pos ⟨h1, h2⟩, cnt_step (low := h) hd (he.mpr h2)]
    · have h3 : ¬ h < e := fun z => h2 (he.mp z)
      rw [if_neg (fun z => h2 z.2), cnt_zero (low := h) (by omega), cnt_zero (by omega)]
      rfl
  · have h2 := hg (by omega)
    have m1 : max here h = here := Int.max_eq_left (by omega)
    have m2 : max here (h + d) = here := Int.max_eq_left h2
    rw [m1, m2, if_neg (fun z => h1 z.1), Int.zero_add]
section
variable {q0 : St} {r0 : List St} {first last here L : Int}
theorem count_bids (hc0 : Chain q0 r0) (hL : last ≤ L) (hhere : IsBid (q0 :: r0) here) : ∀ {n : Nat} {h : Int} {q : St} {r : List St}, Chain q r → q0.1 ≤ q.1 → (∀ y, q.1 ≤ y → at_ (q0 :: r0) y = at_ (q :: r) y) → q.1 ≤ h → (∀ p, r.head? = some p → h < p.1) → (h - q.1) % q.2 = 0 → L < h + n →
    (∀ b, h ≤ b → IsBid (q0 :: r0) b → (first ≤ b ↔ here ≤ b)) →
    (((bidsF (q0 :: r0) L n h).filter fun b => decide (first ≤ b ∧ b ≤ last)).length : Int) = cnt (max here h) (endOf last r) q.2 + rg here last r
  | 0, h, q, r, hc, _, _, _, hr, _, hf, _ => by
    have h4 : h ≤ max here h := Int.le_max_right _ _
    have ab : ∀ p ∈ r, h < p.1 := fun p hp => by
      cases hc with
      | nil _ => cases hp
      | @cons _ p' r' _ _ _ hcc =>
        have z := hr p' rfl
        cases hp with
        | head => exact z
        | tail _ hp => exact Int.lt_trans z (hcc.above p hp)
    have h3 := endOf_le (last := last) (r := r)
    rw [cnt_zero (by omega), rg_zero fun p hp => by have := ab p hp; omega]
    rfl
  | n + 1, h, q, r, hc, h0, hs, hq, hr, hm, hf, hb => by
    have ab : ∀ p ∈ r, h < p.1 := fun p hp => by
      cases hc with
      | nil _ => cases hp
      | @cons _ p' r' _ _ _ h3 =>
        have z := hr p' rfl
        cases hp with
        | head => exact z
        | tail _ hp => exact Int.lt_trans z (h3.above p hp)
    have hpos := hc.pos
    unfold bidsF
    by_cases hl : h > L
    · rw [if_pos hl]
      have h3 := endOf_le (last := last) (r := r)
      have h4 : h ≤ max here h := Int.le_max_right _ _
      rw [cnt_zero (by omega), rg_zero fun p hp => by have := ab p hp; omega]
      rfl
    · have hat : at_ (q0 :: r0) h = some q := by
        rw [hs h hq]
        exact at_here hc hq fun p hp => hr p hp
      have hdown : downB q h = h := by
        unfold downB
        have := Int.mul_ediv_add_emod (h - q.1) q.2
        rw [hm, Int.add_zero, Int.mul_comm] at this
        omega
      have hbid : IsBid (q0 :: r0) h := ⟨q, hat, hdown⟩
      obtain ⟨q', o, e', s, hd', hst, hn⟩ := bid_seg hc0 (Int.le_trans h0 hq) hbid
      rw [hat] at e'
      cases e'
      have hgap : h < here → h + q.2 ≤ here := fun hh => by
        rcases Int.lt_or_le here (h + q.2) with z | z
        · obtain ⟨qx, ex, dx⟩ := hhere
          obtain ⟨a, b, _⟩ := block s (y := here) (by rw [hdown]; omega) (by rw [hn]; exact z)
          rw [ex] at a
          cases a
          omega
        · exact z
      have hfirst := hb h (Int.le_refl _) hbid
      have he : h < endOf last r ↔ h ≤ last := by
        cases r with
        | nil => unfold endOf; dsimp only; omega
        | cons p r =>
          have := hr p rfl
          unfold endOf
          dsimp only
          omega
      have key := cnt_ind (here := here) hpos he hgap
      have hhead : (((h :: bidsF (q0 :: r0) L n (h + q.2)).filter fun b => decide (first ≤ b ∧ b ≤ last)).length : Int) = (if here ≤ h ∧ h ≤ last then 1 else 0) + (((bidsF (q0 :: r0) L n (h + q.2)).filter fun b => decide (first ≤ b ∧ b ≤ last)).length : Int) := by
        by_cases hh : here ≤ h ∧ h ≤ last
        · rw [if_pos hh, List.filter_cons_of_pos (by simp; exact ⟨hfirst.mpr hh.1, hh.2⟩), List.length_cons]
          omega
        · rw [if_neg hh, List.filter_cons_of_neg (by simp; intro z; have := hfirst.mp z; omega), Int.zero_add]
      rw [if_neg hl, hst, hhead, ← key]
      have hb' : ∀ b, h + q.2 ≤ b → IsBid (q0 :: r0) b → (first ≤ b ↔ here ≤ b) := fun b hh => hb b (by omega)
      cases r with
      | nil =>
        rw [count_bids hc0 hL hhere (n := n) (h := h + q.2) hc h0 hs (by omega) (fun p hp => by cases hp) (by rw [show h + q.2 - q.1 = (h - q.1) + q.2 by omega, Int.add_emod_right]; exact hm) (by omega) hb']
        omega
      | cons p r =>
        cases hc with
        | cons c0 c1 c2 c3 =>
          have hp := hr p rfl
          have hdv : q.2 ≤ p.1 - h := Int.le_of_dvd (by omega) (Int.dvd_of_emod_eq_zero (by
            have e : p.1 - h = (p.1 - q.1) - (h - q.1) := by omega
            rw [e, Int.sub_emod, c2, hm]
            simp))
          by_cases hend : h + q.2 = p.1
          · have hz : cnt (max here (h + q.2)) (endOf last (p :: r)) q.2 = 0 := cnt_zero (by
              have h3 : endOf last (p :: r) ≤ p.1 := Int.min_le_left _ _
              have h4 : h + q.2 ≤ max here (h + q.2) := Int.le_max_right _ _
              omega)
            rw [hz, count_bids hc0 hL hhere (n := n) (h := h + q.2) (q := p) (r := r) c3 (by omega) (fun y hy => by rw [hs y (by omega)]; exact at_next (by omega) hy) (by omega) (fun z hz => by
              cases c3 with
              | nil _ => cases hz
              | cons _ h4 _ _ => cases hz; omega) (by rw [hend, Int.sub_self, Int.zero_emod]) (by omega) hb', hend]
            show _ = _ + rg here last (p :: r)
            rw [rg]
            omega
          · rw [count_bids hc0 hL hhere (n := n) (h := h + q.2) (.cons c0 c1 c2 c3) h0 hs (by omega) (fun z hz => by cases hz; omega) (by rw [show h + q.2 - q.1 = (h - q.1) + q.2 by omega, Int.add_emod_right]; exact hm) (by omega) hb']
            omega
end
end Pk
set_option Elab.async false
set_option linter.all false
set_option maxRecDepth 100000
set_option maxHeartbeats 1000000
/-! Mk00: what the defs compute. -/
namespace Wk00
open PySem PySem.Spec PyProof.Rows L2 Vl Vx
@[reducible] def isW : D → Bool
  | .non => false | .bl _ => false | .int _ => true | .str _ => false | .scr _ => false | .tup _ => false | .lst _ => false | .dct _ => false | .ins _ _ => false | .glo _ => false
@[reducible] def plain : D → Bool
  | .non => true | .bl _ => true | .int _ => true | .str _ => true | .scr _ => true | .tup _ => true | .lst _ => true | .dct _ => true | .ins _ _ => false | .glo _ => false
@[reducible] def isNum (a b : Int) : D → Bool
  | .int i => decide (a ≤ i) && decide (i ≤ b)
  | .non => false | .bl _ => false | .str _ => false | .scr _ => false | .tup _ => false | .lst _ => false | .dct _ => false | .ins _ _ => false | .glo _ => false
theorem r_is_whole {x : D} (M : Mem) (hx : plain x = true) : p_is_whole [.d x] M = .ok (.d (.bl (isW x))) M := by
  refine (x_call rfl (v := .d (.bl (isW x))) (M' := M) ?_).trans (x_finish _ _ _ rfl)
  cases x <;> first | (cases hx; done) | simp [b_is_whole, env0, isB, isW]
theorem r_is_number {x : D} {a b : Int} (M : Mem) (hx : plain x = true) : p_is_number [.d x, .d (.int a), .d (.int b)] M = .ok (.d (.bl (isNum a b x))) M := by
  refine (x_call rfl (v := .d (.bl _)) (M' := M) ?_).trans (x_finish _ _ _ rfl)
  cases x with
  | int i => by_cases h : a ≤ i <;> simp [b_is_number, env0, r_is_whole, isW, plain, h, isNum]
  | ins _ _ => cases hx
  | glo _ => cases hx
  | _ => simp [b_is_number, env0, r_is_whole, isW, plain, isNum]
@[reducible] def isRow : D → Bool
  | .scr _ => true | .tup _ => true | .lst _ => true
  | .non => false | .bl _ => false | .int _ => false | .str _ => false | .dct _ => false | .ins _ _ => false | .glo _ => false
theorem r_is_row {x : D} (M : Mem) (hx : plain x = true) : p_is_row [.d x] M = .ok (.d (.bl (isRow x))) M := by
  refine (x_call rfl (v := .d (.bl (isRow x))) (M' := M) ?_).trans (x_finish _ _ _ rfl)
  cases x <;> first | (cases hx; done) | simp [b_is_row, env0, isB, isRow]
@[simp] theorem at2_0 (a b : D) : atI [a, b] 0 = some a := rfl
@[simp] theorem at2_1 (a b : D) : atI [a, b] 1 = some b := rfl
/-- what is_step says of a row's items -/
@[reducible] def stepL : List D → Bool
  | [a, b] => isNum 0 99999 a && isNum 1 99999 b
  | [] => false
  | [_] => false
  | _ :: _ :: _ :: _ => false
@[reducible] def stepB : D → Bool
  | .tup l => stepL l
  | .lst l => stepL l
  | .non => false | .bl _ => false | .int _ => false | .str _ => false | .scr _ => false | .dct _ => false | .ins _ _ => false | .glo _ => false
@[reducible] def itemOk : D → Bool
  | .tup l => l.all plain
  | .lst l => l.all plain
  | .non => true | .bl _ => true | .int _ => true | .str _ => true | .scr _ => false | .dct _ => true | .ins _ _ => false | .glo _ => false
theorem r_is_step {x : D} (M : Mem) (hx : itemOk x = true) : p_is_step [.d x] M = .ok (.d (.bl (stepB x))) M := by
  refine (x_call rfl (v := .d (.bl (stepB x))) (M' := M) ?_).trans (x_finish _ _ _ rfl)
  cases x with
  | tup l =>
    have h := List.all_eq_true.mp hx
    match l, h with
    | [], h => simp [b_is_step, env0, r_is_row, plain, isRow, stepB, stepL]
    | [a], h => simp [b_is_step, env0, r_is_row, plain, isRow, stepB, stepL]
    | [a, b], h =>
      have h1 := h a (by simp)
      have h2 := h b (by simp)
      cases q : isNum 0 99999 a <;> simp [b_is_step, env0, r_is_row, r_is_number, plain, isRow, stepB, stepL, h1, h2, q]
    | a :: b :: c :: r, h =>
      have e : ¬ ((r.length : Int) + 1 + 1 + 1 = 2) := by omega
      simp [b_is_step, env0, r_is_row, plain, isRow, stepB, stepL, e]
  | lst l =>
    have h := List.all_eq_true.mp hx
    match l, h with
    | [], h => simp [b_is_step, env0, r_is_row, plain, isRow, stepB, stepL]
    | [a], h => simp [b_is_step, env0, r_is_row, plain, isRow, stepB, stepL]
    | [a, b], h =>
      have h1 := h a (by simp)
      have h2 := h b (by simp)
      cases q : isNum 0 99999 a <;> simp [b_is_step, env0, r_is_row, r_is_number, plain, isRow, stepB, stepL, h1, h2, q]
    | a :: b :: c :: r, h =>
      have e : ¬ ((r.length : Int) + 1 + 1 + 1 = 2) := by omega
      simp [b_is_step, env0, r_is_row, plain, isRow, stepB, stepL, e]
  | scr _ => cases hx
  | ins _ _ => cases hx
  | glo _ => cases hx
  | _ => simp [b_is_step, env0, r_is_row, plain, isRow, stepB]
/-! ### frozen -/
@[reducible] def leaf : D → Bool
  | .non => true | .bl _ => true | .int _ => true | .str _ => true
  | .scr _ => false | .tup _ => false | .lst _ => false | .dct _ => false | .ins _ _ => false | .glo _ => false
theorem r_frozen0 {x : D} (M : Mem) (n : Nat) (hx : leaf x = true) : p_frozen (n + 1) [.d x] M = .ok (.d x) M := by
  refine (x_call rfl (v := .d x) (M' := M) ?_).trans (x_finish _ _ _ rfl)
  cases x <;> first | (cases hx; done) | simp [b_frozen, env0, isB]
theorem r_frozenL {l : List D} {n : Nat} {M : Mem} (fz : D → D) (hl : l.length ≤ big) (h : ∀ x ∈ l, p_frozen n [.d x] M = .ok (.d (fz x)) M) : p_frozen (n + 1) [.d (.lst l)] M = .ok (.d (.tup (l.map fz))) M := by
  have key := x_fLc (fi := iSeq (fVar 0)) (t := tName 1) (ts := bYes) (el := fCall (p_frozen n) (fCons (fVar 1) fNil)) (vs := [1]) (e := [some (.d (.lst l)), none]) (M := M) (M1 := M) (v := ivSeq (.d (.lst l)) l) rfl trivial hl (fun x => [some (.d (.lst l)), some (.d x)]) (fun _ => true) fz (fun x hx => rfl) (fun x hx => rfl) (fun x hx _ => by simp [h x hx])
  have e0 : (ivSeq (.d (.lst l)) l).l.filter (fun _ => true) = l := by simp [ivSeq]
  rw [e0] at key
  refine (x_call rfl (v := .d (.tup (l.map fz))) (M' := M) ?_).trans (x_finish _ _ _ rfl)
  simp [b_frozen, env0, isB, key]
theorem r_frozenT {l : List D} {n : Nat} {M : Mem} (fz : D → D) (hl : l.length ≤ big) (h : ∀ x ∈ l, p_frozen n [.d x] M = .ok (.d (fz x)) M) : p_frozen (n + 1) [.d (.tup l)] M = .ok (.d (.tup (l.map fz))) M := by
  have key := x_fLc (fi := iSeq (fVar 0)) (t := tName 1) (ts := bYes) (el := fCall (p_frozen n) (fCons (fVar 1) fNil)) (vs := [1]) (e := [some (.d (.tup l)), none]) (M := M) (M1 := M) (v := ivSeq (.d (.tup l)) l) rfl trivial hl (fun x => [some (.d (.tup l)), some (.d x)]) (fun _ => true) fz (fun x hx => rfl) (fun x hx => rfl) (fun x hx _ => by simp [h x hx])
  have e0 : (ivSeq (.d (.tup l)) l).l.filter (fun _ => true) = l := by simp [ivSeq]
  rw [e0] at key
  refine (x_call rfl (v := .d (.tup (l.map fz))) (M' := M) ?_).trans (x_finish _ _ _ rfl)
  simp [b_frozen, env0, isB, key]
/-! ### want_row -/
def firstBad : Nat → List D → Option Nat
  | _, [] => none
  | i, x :: r => if stepB x = true then firstBad (i + 1) r else some i
abbrev envW (x : D) (a3 a4 : Option Val) : En := [some (.d x), some (.d (.glo "is_step")), some (.d (.int 12)), a3, a4]
theorem tab_step : tabOf t_item "is_step" = some p_is_step := by rfl
theorem call_item {x y : D} {a3 : Option Val} (M : Mem) (hy : itemOk y = true) : fCallL 1 t_item (fCons (fVar 4) fNil) [some (.d x), some (.d (.glo "is_step")), some (.d (.int 12)), a3, some (.d y)] M = .ok (.d (.bl (stepB y))) M := by
  show (match tabOf t_item "is_step" with
    | some φ => rbind (fCons (fVar 4) fNil [some (.d x), some (.d (.glo "is_step")), some (.d (.int 12)), a3, some (.d y)] M) φ
    | none => .bad) = _
  rw [tab_step]
  simp [r_is_step M hy]
noncomputable def wantBody : SF := (sIf (bNot (asT (fCallL 1 t_item (fCons (fVar 4) fNil)))) (sRaise1 "BadItem" "index" (fVar 3)) sNil)
@[simp] theorem x_raise1 (x n : Str) (f : EF) (e : En) (M : Mem) : sRaise1 x n f e M = rO (f e M) e fun v M1 => exn1 x n e v M1 := rfl
@[simp] theorem x_exn1 (x n : Str) (e : En) (y : D) (M : Mem) : exn1 x n e (.d y) M = .er ⟨x, [(n, y)]⟩ e M := rfl
def wantQ (x : D) (l : List D) (M : Mem) (o : O) : Prop := match firstBad 0 l with
  | none => ∃ b3 b4, o = O.nx (envW x b3 b4) M
  | some j => ∃ e, o = O.er ⟨"BadItem", [("index", .int j)]⟩ e M
theorem want_loop {x : D} {l : List D} {M : Mem} (chk : Mem → Prop) (hc : chk M) (hl : ∀ y ∈ l, itemOk y = true) (a3 a4 : Option Val) :
    wantQ x l M (forF chk (tTup 2 (tCons2 (tName 3) (tCons2 (tName 4) tNils))) wantBody (enumD 0 l) (envW x a3 a4) M) := by
  refine x_forQ (Q := wantQ x l M) (P := fun rest e M' => M' = M ∧ ∃ i r b3 b4, rest = enumD i r ∧ e = envW x b3 b4 ∧ (∀ y ∈ r, itemOk y = true) ∧ firstBad i r = firstBad 0 l) ?_ ?_ _ _ _ ⟨rfl, 0, l, a3, a4, rfl, rfl, hl, rfl⟩
  · rintro z rest e M' ⟨rfl, i, r, b3, b4, hr, rfl, hy, hf⟩
    cases r with
    | nil => cases hr
    | cons y r =>
      cases hr
      refine ⟨hc, [some (.d x), some (.d (.glo "is_step")), some (.d (.int 12)), some (.d (.int i)), some (.d y)], rfl, ?_⟩
      have c := call_item (x := x) (a3 := some (.d (.int i))) M' (hy y List.mem_cons_self)
      cases hs : stepB y with
      | true =>
        rw [hs] at c
        have e1 : wantBody [some (.d x), some (.d (.glo "is_step")), some (.d (.int 12)), some (.d (.int i)), some (.d y)] M' = .nx (envW x (some (.d (.int i))) (some (.d y))) M' := by
          simp [wantBody, c]
        rw [e1]
        refine ⟨rfl, i + 1, r, _, _, rfl, rfl, fun w hw => hy w (List.mem_cons_of_mem _ hw), ?_⟩
        rw [← hf, firstBad, if_pos hs]
      | false =>
        rw [hs] at c
        have e1 : wantBody [some (.d x), some (.d (.glo "is_step")), some (.d (.int 12)), some (.d (.int i)), some (.d y)] M' = .er ⟨"BadItem", [("index", .int i)]⟩ (envW x (some (.d (.int i))) (some (.d y))) M' := by
          simp [wantBody, c]
        rw [e1]
        have hf : firstBad 0 l = some i := by rw [← hf, firstBad, if_neg (by rw [hs]; exact Bool.false_ne_true)]
        show wantQ x l M' _
        unfold wantQ
        rw [hf]
        exact ⟨_, rfl⟩
  · rintro e M' ⟨rfl, i, r, b3, b4, hr, rfl, hy, hf⟩
    cases r with
    | cons y r => cases hr
    | nil =>
      have hf : firstBad 0 l = none := by rw [← hf, firstBad]
      refine ⟨hc, ?_⟩
      unfold wantQ
      rw [hf]
      exact ⟨_, _, rfl⟩
theorem stepB_ints {y : D} (h : stepB y = true) : ∃ a b : Int, (y = .tup [.int a, .int b] ∨ y = .lst [.int a, .int b]) ∧ 0 ≤ a ∧ a ≤ 99999 ∧ 1 ≤ b ∧ b ≤ 99999 := by
  have key : ∀ l, stepL l = true → ∃ a b : Int, l = [.int a, .int b] ∧ 0 ≤ a ∧ a ≤ 99999 ∧ 1 ≤ b ∧ b ≤ 99999 := fun l h => by
    match l, h with
    | [x, z], h =>
      have h : (isNum 0 99999 x && isNum 1 99999 z) = true := h
      obtain ⟨h1, h2⟩ := Bool.and_eq_true_iff.mp h
      cases x <;> first | (cases h1; done) | skip
      cases z <;> first | (cases h2; done) | skip
      rename_i a b _
      obtain ⟨a1, a2⟩ := Bool.and_eq_true_iff.mp h1
      obtain ⟨b1, b2⟩ := Bool.and_eq_true_iff.mp h2
      exact ⟨a, b, rfl, of_decide_eq_true a1, of_decide_eq_true a2, of_decide_eq_true b1, of_decide_eq_true b2⟩
  cases y with
  | tup l => obtain ⟨a, b, rfl, r⟩ := key l h; exact ⟨a, b, .inl rfl, r⟩
  | lst l => obtain ⟨a, b, rfl, r⟩ := key l h; exact ⟨a, b, .inr rfl, r⟩
  | _ => cases h
theorem firstBad_none : ∀ {l : List D} {i : Nat}, firstBad i l = none → ∀ y ∈ l, stepB y = true
  | [], _, _, y, hy => by cases hy
  | x :: r, i, h, y, hy => by
    unfold firstBad at h
    split at h
    · rename_i hs
      cases hy with
      | head => exact hs
      | tail _ hy => exact firstBad_none h y hy
    · cases h
@[reducible] def fzI : D → D
  | .lst l => .tup l
  | .tup l => .tup l
  | .non => .non | .bl b => .bl b | .int i => .int i | .str z => .str z | .scr n => .scr n | .dct d => .dct d | .ins c f => .ins c f | .glo g => .glo g
theorem r_frozenI {y : D} {M : Mem} (n : Nat) (h : stepB y = true) : p_frozen (n + 2) [.d y] M = .ok (.d (fzI y)) M := by
  obtain ⟨a, b, hy, _⟩ := stepB_ints h
  have hin : ∀ x ∈ [D.int a, D.int b], p_frozen (n + 1) [.d x] M = .ok (.d x) M := fun x hx => r_frozen0 M n (by
    simp only [List.mem_cons, List.not_mem_nil, or_false] at hx
    rcases hx with rfl | rfl <;> rfl)
  rcases hy with rfl | rfl
  · exact r_frozenT (fun x => x) (by show 2 ≤ 16777216; decide) hin
  · exact r_frozenL (fun x => x) (by show 2 ≤ 16777216; decide) hin
theorem r_want {x : D} {l : List D} (hx : x = .tup l ∨ x = .lst l) (hl : ∀ y ∈ l, itemOk y = true) (M : Mem) : p_want_row [.d x, .d (.glo "is_step"), .d (.int 12)] M = match firstBad 0 l with
    | some j => .err ⟨"BadItem", [("index", .int j)]⟩ M
    | none => if 12 < l.length then .err ⟨"TooMany", [("limit", .int 12)]⟩ M else .ok (.d (.tup (l.map fzI))) M := by
  have hp : plain x = true ∧ isRow x = true := by rcases hx with rfl | rfl <;> exact ⟨rfl, rfl⟩
  have hfor : sFor (iEnumF (fCons (fVar 0) fNil)) (tTup 2 (tCons2 (tName 3) (tCons2 (tName 4) tNils))) wantBody (envW x none none) M = forF (ivSeq (.d x) l).chk (tTup 2 (tCons2 (tName 3) (tCons2 (tName 4) tNils))) wantBody (enumD 0 l) (envW x none none) M := by
    rcases hx with rfl | rfl <;> rfl
  have hq := want_loop (x := x) (M := M) (ivSeq (.d x) l).chk trivial hl none none
  rw [← hfor] at hq
  unfold wantQ at hq
  have hlen : bLen [.d x] M = .ok (.d (.int l.length)) M := by
    rcases hx with rfl | rfl <;> rfl
  have h1 : ∀ F : SF, sSeq (sIf (bNot (asT (fCall p_is_row (fCons (fVar 0) fNil)))) (sRaise1 "BadItem" "index" (fC .non)) sNil) F (envW x none none) M = F (envW x none none) M := fun F => by
    simp [r_is_row M hp.1, hp.2]
  cases hb : firstBad 0 l with
  | some j =>
    rw [hb] at hq
    obtain ⟨e, hq⟩ := hq
    refine (x_callX rfl (x := ⟨"BadItem", [("index", .int j)]⟩) (M' := M) (e := e) ?_).trans (x_finishX _ _ _ rfl)
    refine (h1 _).trans ?_
    show (match sFor (iEnumF (fCons (fVar 0) fNil)) (tTup 2 (tCons2 (tName 3) (tCons2 (tName 4) tNils))) wantBody (envW x none none) M with
      | .nx e' M' => _
      | o => o) = _
    rw [hq]
  | none =>
    rw [hb] at hq
    obtain ⟨b3, b4, hq⟩ := hq
    by_cases hlong : 12 < l.length
    · rw [if_pos hlong]
      refine (x_callX rfl (x := ⟨"TooMany", [("limit", .int 12)]⟩) (M' := M) (e := envW x b3 b4) ?_).trans (x_finishX _ _ _ rfl)
      refine (h1 _).trans ?_
      show (match sFor (iEnumF (fCons (fVar 0) fNil)) (tTup 2 (tCons2 (tName 3) (tCons2 (tName 4) tNils))) wantBody (envW x none none) M with
        | .nx e' M' => _
        | o => o) = _
      rw [hq]
      have hL : (12 : Int) < l.length := by omega
      simp [hlen, hL]
    · rw [if_neg hlong]
      refine (x_call rfl (v := .d (.tup (l.map fzI))) (M' := M) ?_).trans (x_finish _ _ _ rfl)
      refine (h1 _).trans ?_
      show (match sFor (iEnumF (fCons (fVar 0) fNil)) (tTup 2 (tCons2 (tName 3) (tCons2 (tName 4) tNils))) wantBody (envW x none none) M with
        | .nx e' M' => _
        | o => o) = _
      rw [hq]
      have hL : ¬ ((12 : Int) < l.length) := by omega
      have hbg : l.length ≤ big := Nat.le_trans (Nat.le_of_not_lt hlong) (by decide)
      have hs := firstBad_none hb
      have hf : p_frozen 3 [.d x] M = .ok (.d (.tup (l.map fzI))) M := by
        rcases hx with rfl | rfl
        · exact r_frozenT fzI hbg fun y hy => r_frozenI 0 (hs y hy)
        · exact r_frozenL fzI hbg fun y hy => r_frozenI 0 (hs y hy)
      simp [hlen, hL, hf]
theorem r_want_no {x : D} (hp : plain x = true) (hr : isRow x = false) (M : Mem) : p_want_row [.d x, .d (.glo "is_step"), .d (.int 12)] M = .err ⟨"BadItem", [("index", .non)]⟩ M := by
  refine (x_callX rfl (x := ⟨"BadItem", [("index", .non)]⟩) (M' := M) (e := envW x none none) ?_).trans (x_finishX _ _ _ rfl)
  simp [b_want_row, env0, r_is_row M hp, hr]
/-! ### Ladder(steps) -/
def encS (p : Int × Int) : D := .tup [.int p.1, .int p.2]
def wrongAt : Option (Int × Int) → Nat → List (Int × Int) → Option Nat
  | _, _, [] => none
  | none, i, p :: r => if p.1 = 0 then wrongAt (some p) (i + 1) r else some i
  | some q, i, p :: r => if p.1 ≤ q.1 ∨ (p.1 - q.1) % q.2 ≠ 0 then some i else wrongAt (some p) (i + 1) r
noncomputable def initBody : SF := (sSeq (sIf (bAnd (asB (fOp opEq (fVar 2) (fC (.int 0)))) (asB (fOp opNe (fOp opIx (fVar 3) (fC (.int 0))) (fC (.int 0))))) (sRaise1 "BadItem" "index" (fVar 2)) sNil)
  (sIf (asB (fOp opGt (fVar 2) (fC (.int 0)))) (sSeq (sSet 4 (fOp opIx (fAttr ["Ladder"] "steps" (fVar 0)) (fOp opSub (fVar 2) (fC (.int 1)))))
  (sIf (bOr (asB (fOp opLe (fOp opIx (fVar 3) (fC (.int 0))) (fOp opIx (fVar 4) (fC (.int 0))))) (asB (fOp opNe (fOp opMod (fOp opSub (fOp opIx (fVar 3) (fC (.int 0))) (fOp opIx (fVar 4) (fC (.int 0)))) (fOp opIx (fVar 4) (fC (.int 1)))) (fC (.int 0))))) (sRaise1 "BadItem" "index" (fVar 2)) sNil)) sNil))
def ladM (M0 : Mem) (ps : List (Int × Int)) : Mem := M0 ++ [.ins "Ladder" [("steps", .d (.tup (ps.map encS)))]]
theorem lad_at (M0 : Mem) (ps : List (Int × Int)) : (ladM M0 ps)[M0.length]? = some (.ins "Ladder" [("steps", .d (.tup (ps.map encS)))]) := by
  unfold ladM
  rw [List.getElem?_append_right (Nat.le_refl _), Nat.sub_self]
  rfl
theorem lad_ins (M0 : Mem) (ps : List (Int × Int)) : insOf (ladM M0 ps) (.obj M0.length) = some (("Ladder" : Str), [(("steps" : Str), Val.d (.tup (ps.map encS)))]) := by
  unfold insOf
  dsimp only
  rw [lad_at]
@[simp] theorem look_steps {α : Type} (x : α) : lookF ("steps" : Str) [(("steps" : Str), x)] = some x := by
  unfold lookF
  rw [if_pos rfl]
def initQ (M0 : Mem) (ps : List (Int × Int)) (x : D) (o : O) : Prop := match wrongAt none 0 ps with
  | none => ∃ e, o = O.nx e (ladM M0 ps)
  | some j => ∃ e, o = O.er ⟨"BadItem", [("index", .int j)]⟩ e (ladM M0 ps)
theorem atI_at {α : Type} {l : List α} {n : Nat} {x : α} (h : l[n]? = some x) : atI l (n : Int) = some x := by
  have hn : n < l.length := by
    rcases Nat.lt_or_ge n l.length with z | z
    · exact z
    · rw [List.getElem?_eq_none z] at h
      cases h
  unfold atI ixN
  rw [if_pos (Int.natCast_nonneg _), if_pos (by omega), Option.bind_some, Int.toNat_natCast, h]
theorem init_loop {x : D} {M0 : Mem} {ps : List (Int × Int)} (chk : Mem → Prop) (hc : ∀ M, chk M) (hd : ∀ p ∈ ps, 0 < p.2) :
    initQ M0 ps x (forF chk (tTup 2 (tCons2 (tName 2) (tCons2 (tName 3) tNils))) initBody (enumD 0 (ps.map encS)) [some (.obj M0.length), some (.d x), none, none, none] (ladM M0 ps)) := by
  refine x_forQ (Q := initQ M0 ps x) (P := fun rest e M => M = ladM M0 ps ∧ ∃ pre r b2 b3 b4, ps = pre ++ r ∧ rest = enumD pre.length (r.map encS) ∧ e = [some (.obj M0.length), some (.d x), b2, b3, b4] ∧ wrongAt pre.getLast? pre.length r = wrongAt none 0 ps) ?_ ?_ _ _ _ ⟨rfl, [], ps, none, none, none, rfl, rfl, rfl, rfl⟩
  · rintro z rest e M ⟨rfl, pre, r, b2, b3, b4, hps, hr, rfl, hw⟩
    cases r with
    | nil => cases hr
    | cons p r =>
      cases hr
      refine ⟨hc _, [some (.obj M0.length), some (.d x), some (.d (.int pre.length)), some (.d (encS p)), b4], rfl, ?_⟩
      have ia : ∀ q : Int × Int, opIx (.d (encS q)) (.d (.int 0)) (ladM M0 ps) = .ok (.d (.int q.1)) (ladM M0 ps) := fun q => rfl
      have ib : ∀ q : Int × Int, opIx (.d (encS q)) (.d (.int 1)) (ladM M0 ps) = .ok (.d (.int q.2)) (ladM M0 ps) := fun q => rfl
      cases hpre : pre.getLast? with
      | none =>
        have hp0 : pre = [] := by simpa using hpre
        subst hp0
        by_cases h0 : p.1 = 0
        · have e1 : initBody [some (.obj M0.length), some (.d x), some (.d (.int ([] : List (Int × Int)).length)), some (.d (encS p)), b4] (ladM M0 ps) = .nx [some (.obj M0.length), some (.d x), some (.d (.int 0)), some (.d (encS p)), b4] (ladM M0 ps) := by
            simp [initBody, ia, h0]
          rw [e1]
          refine ⟨rfl, [p], r, _, _, _, hps, rfl, rfl, ?_⟩
          rw [← hw]
          show wrongAt (some p) 1 r = wrongAt none 0 (p :: r)
          rw [wrongAt, if_pos h0]
        · have e1 : initBody [some (.obj M0.length), some (.d x), some (.d (.int ([] : List (Int × Int)).length)), some (.d (encS p)), b4] (ladM M0 ps) = .er ⟨"BadItem", [("index", .int 0)]⟩ [some (.obj M0.length), some (.d x), some (.d (.int 0)), some (.d (encS p)), b4] (ladM M0 ps) := by
            simp [initBody, ia, h0]
          rw [e1]
          have hw0 : wrongAt none 0 ps = some 0 := by
            rw [← hw]
            show wrongAt none 0 (p :: r) = _
            rw [wrongAt, if_neg h0]
          show initQ M0 ps x _
          unfold initQ
          rw [hw0]
          exact ⟨_, rfl⟩
      | some q =>
        obtain ⟨pre', rfl⟩ : ∃ pre', pre = pre' ++ [q] := by
          have := List.getLast?_eq_some_iff.mp hpre
          exact this
        have hq2 : 0 < q.2 := hd q (by rw [hps]; simp)
        have hix : atI (ps.map encS) (((pre' ++ [q]).length : Nat) - 1 : Int) = some (encS q) := by
          have e0 : (((pre' ++ [q]).length : Nat) - 1 : Int) = (pre'.length : Int) := by simp
          rw [e0]
          exact atI_at (by rw [hps]; simp)
        have hat : opIx (.d (.tup (ps.map encS))) (.d (.int (((pre' ++ [q]).length : Nat) - 1 : Int))) (ladM M0 ps) = .ok (.d (encS q)) (ladM M0 ps) := by
          rw [x_ix_tup, hix]
        have hL := lad_ins M0 ps
        have hpos : (0 : Int) < ((pre' ++ [q]).length : Nat) := by simp
        have hne : ¬ (((pre' ++ [q]).length : Nat) : Int) = 0 := by omega
        generalize hn : (((pre' ++ [q]).length : Nat) : Int) = n at *
        by_cases hbad : p.1 ≤ q.1 ∨ (p.1 - q.1) % q.2 ≠ 0
        · have e1 : initBody [some (.obj M0.length), some (.d x), some (.d (.int n)), some (.d (encS p)), b4] (ladM M0 ps) = .er ⟨"BadItem", [("index", .int n)]⟩ [some (.obj M0.length), some (.d x), some (.d (.int n)), some (.d (encS p)), some (.d (encS q))] (ladM M0 ps) := by
            by_cases h1 : p.1 ≤ q.1
            · simp [initBody, ia, ib, hne, hpos, hL, hat, h1]
            · have h2 : ¬ (p.1 - q.1) % q.2 = 0 := hbad.resolve_left h1
              simp [initBody, ia, ib, hne, hpos, hL, hat, h1, hq2, h2]
          rw [e1]
          have hw0 : wrongAt none 0 ps = some (pre' ++ [q]).length := by
            rw [← hw, hpre, wrongAt, if_pos hbad]
          show initQ M0 ps x _
          unfold initQ
          rw [hw0, ← hn]
          exact ⟨_, rfl⟩
        · have h1 : ¬ p.1 ≤ q.1 := fun z => hbad (.inl z)
          have h2 : (p.1 - q.1) % q.2 = 0 := Classical.not_not.mp fun z => hbad (.inr z)
          have e1 : initBody [some (.obj M0.length), some (.d x), some (.d (.int n)), some (.d (encS p)), b4] (ladM M0 ps) = .nx [some (.obj M0.length), some (.d x), some (.d (.int n)), some (.d (encS p)), some (.d (encS q))] (ladM M0 ps) := by
            simp [initBody, ia, ib, hne, hpos, hL, hat, h1, hq2, h2]
          rw [e1]
          refine ⟨rfl, pre' ++ [q] ++ [p], r, _, _, _, by rw [hps]; simp, by simp, rfl, ?_⟩
          rw [← hw, hpre]
          have e3 : (pre' ++ [q] ++ [p]).getLast? = some p := by simp
          have e4 : (pre' ++ [q] ++ [p]).length = (pre' ++ [q]).length + 1 := by simp
          rw [e3, e4]
          show _ = wrongAt (some q) _ (p :: r)
          rw [wrongAt, if_neg hbad]
  · rintro e M ⟨rfl, pre, r, b2, b3, b4, hps, hr, rfl, hw⟩
    cases r with
    | cons y r => cases hr
    | nil =>
      have hw0 : wrongAt none 0 ps = none := by rw [← hw]; cases pre.getLast? <;> rfl
      refine ⟨hc _, ?_⟩
      unfold initQ
      rw [hw0]
      exact ⟨_, rfl⟩
def lad (ps : List (Int × Int)) : D := .ins "Ladder" [("steps", .tup (ps.map encS))]
theorem ladM_cut (M0 : Mem) (ps : List (Int × Int)) : OkCut M0 (ladM M0 ps) := x_okcut rfl fun k o e => .inl e
theorem ladM_take (M0 : Mem) (ps : List (Int × Int)) : (ladM M0 ps).take M0.length = M0 := by
  unfold ladM
  rw [List.take_left]
theorem x_sAttr (cs : List Str) (n : Str) (fo fv : EF) (e : En) (M : Mem) : sAttr cs n fo fv e M = rO (fv e M) e fun v M1 => rO (fo e M1) e fun w M2 => match putA cs n v w M2 with
  | some M3 => .nx e M3
  | none => .bad := rfl
theorem put_lad (M0 : Mem) (ps : List (Int × Int)) : putA ["Ladder"] "steps" (.d (.tup (ps.map encS))) (.obj M0.length) (M0 ++ [.ins "Ladder" []]) = some (ladM M0 ps) := by
  unfold putA
  dsimp only
  have e : (M0 ++ [MO.ins "Ladder" []])[M0.length]? = some (.ins "Ladder" []) := by
    rw [List.getElem?_append_right (Nat.le_refl _), Nat.sub_self]
    rfl
  rw [e]
  dsimp only
  rw [if_pos ⟨List.mem_singleton.mpr rfl, by decide, rfl⟩]
  unfold ladM
  rw [List.set_append_right _ _ (Nat.le_refl _), Nat.sub_self]
  rfl
section
variable {x : D} {M0 : Mem} {ps : List (Int × Int)}
/-- the body of Ladder's __init__, its row taken -/
theorem init_pre (hw : p_want_row [.d x, .d (.glo "is_step"), .d (.int 12)] (M0 ++ [.ins "Ladder" []]) = .ok (.d (.tup (ps.map encS))) (M0 ++ [.ins "Ladder" []])) (hne : ps ≠ []) :
    b_Ladder_init [some (.obj M0.length), some (.d x), none, none, none] (M0 ++ [.ins "Ladder" []]) = forF (fun _ => True) (tTup 2 (tCons2 (tName 2) (tCons2 (tName 3) tNils))) initBody (enumD 0 (ps.map encS)) [some (.obj M0.length), some (.d x), none, none, none] (ladM M0 ps) := by
  have hp := put_lad M0 ps
  have hL := lad_ins M0 ps
  have hl : ¬ ((ps.length : Int) = 0) := by
    intro z
    have : ps.length = 0 := by omega
    exact hne (List.length_eq_zero_iff.mp this)
  have hfor : sFor (iEnumF (fCons (fAttr ["Ladder"] "steps" (fVar 0)) fNil)) (tTup 2 (tCons2 (tName 2) (tCons2 (tName 3) tNils))) initBody [some (.obj M0.length), some (.d x), none, none, none] (ladM M0 ps) = forF (fun _ => True) (tTup 2 (tCons2 (tName 2) (tCons2 (tName 3) tNils))) initBody (enumD 0 (ps.map encS)) [some (.obj M0.length), some (.d x), none, none, none] (ladM M0 ps) := by
    have hi : iEnumF (fCons (fAttr ["Ladder"] "steps" (fVar 0)) fNil) [some (.obj M0.length), some (.d x), none, none, none] (ladM M0 ps) = .ok (ivEnum (.d (.tup (ps.map encS))) (ps.map encS)) (ladM M0 ps) := by
      simp [iEnumF, hL, rdS, rdT]
    unfold sFor
    rw [hi]
    rfl
  show sSeq _ (sSeq _ (sFor (iEnumF (fCons (fAttr ["Ladder"] "steps" (fVar 0)) fNil)) (tTup 2 (tCons2 (tName 2) (tCons2 (tName 3) tNils))) initBody)) _ _ = _
  rw [← hfor]
  simp only [x_sSeq, x_sAttr]
  simp [hw, hp, hL, hne]
theorem r_init (hw : p_want_row [.d x, .d (.glo "is_step"), .d (.int 12)] (M0 ++ [.ins "Ladder" []]) = .ok (.d (.tup (ps.map encS))) (M0 ++ [.ins "Ladder" []])) (hd : ∀ p ∈ ps, 0 < p.2) (hne : ps ≠ []) (hk : wrongAt none 0 ps = none) :
    mkIns true "Ladder" p_Ladder_init [.d x] M0 = .ok (.d (lad ps)) M0 := by
  have h := init_loop (x := x) (M0 := M0) (fun _ => True) (fun _ => trivial) hd
  rw [← init_pre hw hne] at h
  unfold initQ at h
  rw [hk] at h
  obtain ⟨e, h⟩ := h
  have hc : p_Ladder_init [.obj M0.length, .d x] (M0 ++ [.ins "Ladder" []]) = .ok (.d .non) (ladM M0 ps) := (x_callN rfl h).trans (x_finish _ _ _ (by unfold ladM; simp))
  unfold mkIns
  rw [hc]
  dsimp only
  rw [if_pos rfl]
  unfold mkD
  rw [if_pos (ladM_cut M0 ps), lad_at]
  dsimp only
  rw [ladM_take]
  rfl
theorem r_init_x {j : Nat} (hw : p_want_row [.d x, .d (.glo "is_step"), .d (.int 12)] (M0 ++ [.ins "Ladder" []]) = .ok (.d (.tup (ps.map encS))) (M0 ++ [.ins "Ladder" []])) (hd : ∀ p ∈ ps, 0 < p.2) (hne : ps ≠ []) (hk : wrongAt none 0 ps = some j) :
    mkIns true "Ladder" p_Ladder_init [.d x] M0 = .err ⟨"BadItem", [("index", .int j)]⟩ M0 := by
  have h := init_loop (x := x) (M0 := M0) (fun _ => True) (fun _ => trivial) hd
  rw [← init_pre hw hne] at h
  unfold initQ at h
  rw [hk] at h
  obtain ⟨e, h⟩ := h
  have hc : p_Ladder_init [.obj M0.length, .d x] (M0 ++ [.ins "Ladder" []]) = .err ⟨"BadItem", [("index", .int j)]⟩ (ladM M0 ps) := (x_callX rfl h).trans (x_finishX _ _ _ (by unfold ladM; simp))
  unfold mkIns
  rw [hc]
  dsimp only
  unfold mkX
  rw [if_pos (ladM_cut M0 ps), ladM_take]
end
/-! ### its methods -/
theorem atI_last {α : Type} {l : List α} {x : α} (h : l.getLast? = some x) : atI l (-1) = some x := by
  obtain ⟨r, rfl⟩ := List.getLast?_eq_some_iff.mp h
  unfold atI ixN
  have h1 : ¬ ((0 : Int) ≤ -1) := by decide
  have h2 : -(((r ++ [x]).length : Nat) : Int) ≤ -1 := by simp; omega
  have h3 : ((-1 : Int) + (((r ++ [x]).length : Nat) : Int)).toNat = r.length := by simp; omega
  rw [if_neg h1, if_pos h2, Option.bind_some, h3]
  simp
@[reducible] def leD (x : Int) : D → Bool
  | .tup (.int a :: _) => decide (a ≤ x)
  | _ => false
theorem lad_insD (M : Mem) (ps : List (Int × Int)) : insOf M (.d (lad ps)) = some (("Ladder" : Str), [(("steps" : Str), Val.d (.tup (ps.map encS)))]) := rfl
section
variable {ps : List (Int × Int)} {x : Int} {q : Int × Int} {M : Mem}
theorem filt_le : (ps.map encS).filter (leD x) = (ps.filter fun p => decide (p.1 ≤ x)).map encS := by
  rw [List.filter_map]
  rfl
theorem r_step_at (hb : ps.length ≤ big) (h : (ps.filter fun p => decide (p.1 ≤ x)).getLast? = some q) : p_Ladder_step_at [.d (lad ps), .d (.int x)] M = .ok (.d (encS q)) M := by
  have hL := lad_insD M ps
  have hi : iSeq (fAttr ["Ladder"] "steps" (fVar 0)) [some (.d (lad ps)), some (.d (.int x)), none] M = .ok (ivSeq (.d (.tup (ps.map encS))) (ps.map encS)) M := by
    simp [iSeq, hL, rdS, rdT]
  have key := x_fLc (t := tName 2) (ts := asB (fOp opLe (fOp opIx (fVar 2) (fC (.int 0))) (fVar 1))) (el := fVar 2) (vs := [2]) hi trivial (by show (ps.map encS).length ≤ big; rw [List.length_map]; exact hb) (fun d => [some (.d (lad ps)), some (.d (.int x)), some (.d d)]) (leD x) (fun d => d) (fun d hd => rfl) (fun d hd => by
    obtain ⟨p, _, rfl⟩ := List.mem_map.mp hd
    rfl) (fun d hd _ => rfl)
  have e0 : ((ivSeq (.d (.tup (ps.map encS))) (ps.map encS)).l.filter (leD x)).map (fun d => d) = (ps.filter fun p => decide (p.1 ≤ x)).map encS := by
    rw [List.map_id']
    exact filt_le
  rw [e0] at key
  have hl : atI ((ps.filter fun p => decide (p.1 ≤ x)).map encS) (-1) = some (encS q) := atI_last (by rw [List.getLast?_map, h]; rfl)
  refine (x_call rfl (v := .d (encS q)) (M' := M) ?_).trans (x_finish _ _ _ rfl)
  simp [b_Ladder_step_at, env0, key, hl]
end
section
variable {ps : List (Int × Int)} {x : Int} {q : Int × Int} {M : Mem}
theorem meth_lad {m : Str} (hm : m ≠ "steps") (φ : List Val → Mem → R Val) (f : EF) (fs : En → Mem → R (List Val)) (e : En) (hv : f e M = .ok (.d (lad ps)) M) : fMeth "Ladder" m φ f fs e M = rbind (fs e M) fun ws M2 => φ (.d (lad ps) :: ws) M2 := by
  unfold fMeth
  rw [hv, rbind_ok, lad_insD]
  dsimp only
  rw [if_pos ⟨rfl, by unfold lookF; rw [if_neg hm]; rfl⟩]
theorem m_step_at {r : En} (hb : ps.length ≤ big) (h : (ps.filter fun p => decide (p.1 ≤ x)).getLast? = some q) : fMeth "Ladder" "step_at" p_Ladder_step_at (fVar 0) (fCons (fVar 1) fNil) (some (.d (lad ps)) :: some (.d (.int x)) :: r) M = .ok (.d (encS q)) M := by
  rw [meth_lad (ps := ps) (by decide +kernel) _ _ _ _ (by simp)]
  simp [r_step_at hb h]
def downOf (q : Int × Int) (x : Int) : Int := q.1 + (x - q.1) / q.2 * q.2
def nextOf (q : Int × Int) (x : Int) : Int := q.1 + ((x - q.1) / q.2 + 1) * q.2
theorem r_down (hb : ps.length ≤ big) (h : (ps.filter fun p => decide (p.1 ≤ x)).getLast? = some q) (h0 : 0 < q.2) (h1 : q.2 < 1073741824) : p_Ladder_down [.d (lad ps), .d (.int x)] M = .ok (.d (.int (downOf q x))) M := by
  have hs := fun r => m_step_at (r := r) (M := M) hb h
  have hc : CDiv (x - q.1) q.2 := ⟨h0, h1⟩
  have hm : CMul ((x - q.1) / q.2) q.2 := .inr ⟨by omega, by omega⟩
  refine (x_call rfl (v := .d (.int (downOf q x))) (M' := M) ?_).trans (x_finish _ _ _ rfl)
  simp [b_Ladder_down, env0, hs, encS, hc, hm, downOf]
theorem r_next (hb : ps.length ≤ big) (h : (ps.filter fun p => decide (p.1 ≤ x)).getLast? = some q) (h0 : 0 < q.2) (h1 : q.2 < 1073741824) : p_Ladder_next_bid [.d (lad ps), .d (.int x)] M = .ok (.d (.int (nextOf q x))) M := by
  have hs := fun r => m_step_at (r := r) (M := M) hb h
  have hc : CDiv (x - q.1) q.2 := ⟨h0, h1⟩
  have hm : CMul ((x - q.1) / q.2 + 1) q.2 := .inr ⟨by omega, by omega⟩
  refine (x_call rfl (v := .d (.int (nextOf q x))) (M' := M) ?_).trans (x_finish _ _ _ rfl)
  simp [b_Ladder_next_bid, env0, hs, encS, hc, hm, nextOf]
theorem r_up (hb : ps.length ≤ big) (h : (ps.filter fun p => decide (p.1 ≤ x)).getLast? = some q) (h0 : 0 < q.2) (h1 : q.2 < 1073741824) : p_Ladder_up [.d (lad ps), .d (.int x)] M = .ok (.d (.int (if downOf q x = x then x else nextOf q x))) M := by
  have hd : ∀ r, fMeth "Ladder" "down" p_Ladder_down (fVar 0) (fCons (fVar 1) fNil) (some (.d (lad ps)) :: some (.d (.int x)) :: r) M = .ok (.d (.int (downOf q x))) M := fun r => by
    rw [meth_lad (ps := ps) (by decide +kernel) _ _ _ _ (by simp)]
    simp [r_down hb h h0 h1]
  have hn : ∀ r, fMeth "Ladder" "next_bid" p_Ladder_next_bid (fVar 0) (fCons (fVar 1) fNil) (some (.d (lad ps)) :: some (.d (.int x)) :: r) M = .ok (.d (.int (nextOf q x))) M := fun r => by
    rw [meth_lad (ps := ps) (by decide +kernel) _ _ _ _ (by simp)]
    simp [r_next hb h h0 h1]
  refine (x_call rfl (v := .d (.int (if downOf q x = x then x else nextOf q x))) (M' := M) ?_).trans (x_finish _ _ _ rfl)
  by_cases hx : downOf q x = x
  · simp [b_Ladder_up, env0, hd, hn, hx]
  · simp [b_Ladder_up, env0, hd, hn, hx]
theorem r_is_bid (hb : ps.length ≤ big) (h : (ps.filter fun p => decide (p.1 ≤ x)).getLast? = some q) (h0 : 0 < q.2) (hx : 0 ≤ x) (hx2 : x ≤ 99999) : p_Ladder_is_bid [.d (lad ps), .d (.int x)] M = .ok (.d (.bl (decide ((x - q.1) % q.2 = 0)))) M := by
  have hs := fun r => m_step_at (r := r) (M := M) hb h
  have hn : p_is_number [.d (.int x), .d (.int 0), .d (.int 99999)] M = .ok (.d (.bl true)) M := by
    rw [r_is_number M rfl]
    simp [isNum, hx, hx2]
  refine (x_call rfl (v := .d (.bl (decide ((x - q.1) % q.2 = 0)))) (M' := M) ?_).trans (x_finish _ _ _ rfl)
  simp [b_Ladder_is_bid, env0, hs, encS, hn, h0]
theorem r_is_bid_no {y : D} (hp : plain y = true) (hy : isNum 0 99999 y = false) : p_Ladder_is_bid [.d (lad ps), .d y] M = .ok (.d (.bl false)) M := by
  have hn := r_is_number M (a := 0) (b := 99999) hp
  rw [hy] at hn
  refine (x_call rfl (v := .d (.bl false)) (M' := M) ?_).trans (x_finish _ _ _ rfl)
  simp [b_Ladder_is_bid, env0, hn]
end
/-! ### _law_mixed -/
theorem r_mixed {k : Nat} {ns : List Int} {b c d : Int} {v : D} {l : List D} {M : Mem} (hv : v = .tup l ∨ v = .lst l) (hM : M[k]? = some (rowO ns b c d)) (hb : 0 ≤ b) :
    ∃ w b' c' d', (w = .tup l ∨ w = .lst l) ∧ 0 ≤ b' ∧ p__law_mixed [.obj k, .d v] M = .ok (.d w) (M.set k (rowO ns b' c' d')) := by
  obtain ⟨r, b1, c1, d1, _, _, hb1, t⟩ := taken_ok (m := 2) hM hb (by decide) (by decide)
  have t : p__law_taken [.obj k, .d (.int 2)] M = .ok (.d (.int r)) (M.set k (rowO ns b1 c1 d1)) := t
  by_cases h : r = 0
  · refine ⟨.lst l, b1, c1, d1, .inr rfl, hb1, (x_call rfl (v := .d (.lst l)) ?_).trans (x_finish _ _ _ (by rw [List.length_set]))⟩
    rcases hv with rfl | rfl <;> simp [b__law_mixed, env0, t, h]
  · refine ⟨.tup l, b1, c1, d1, .inl rfl, hb1, (x_call rfl (v := .d (.tup l)) ?_).trans (x_finish _ _ _ (by rw [List.length_set]))⟩
    rcases hv with rfl | rfl <;> simp [b__law_mixed, env0, t, h]
/-! ### _law_bids -/
noncomputable def bidsLc : EF := (fLc (iSeq (fVar 0)) (tTup 2 (tCons2 (tName 5) (tCons2 (tName 6) tNils))) (asB (fOp opLe (fVar 5) (fVar 3))) (fVar 6) [5, 6])
noncomputable def bidsBody : SF := (sSeq (sIf (asB (fOp opGt (fVar 3) (fVar 1))) sBrk sNil)
  (sSeq (sExpr (fAppend (fVar 2) (fVar 3)))
  (sSet 3 (fOp opAdd (fVar 3) (fOp opIx bidsLc (fNeg (fC (.int 1))))))))
theorem r_bidsLc {ps : List (Int × Int)} {x y : Int} {q : Int × Int} {k : Nat} {a4 : Option Val} {M : Mem} (hb : ps.length ≤ big) (h : Pk.at_ ps x = some q) :
    fOp opIx bidsLc (fNeg (fC (.int 1))) [some (.d (.tup (ps.map encS))), some (.d (.int y)), some (.obj k), some (.d (.int x)), a4, none, none] M = .ok (.d (.int q.2)) M := by
  have hi : iSeq (fVar 0) [some (.d (.tup (ps.map encS))), some (.d (.int y)), some (.obj k), some (.d (.int x)), a4, none, none] M = .ok (ivSeq (.d (.tup (ps.map encS))) (ps.map encS)) M := by
    simp [iSeq, rdS, rdT]
  have key := x_fLc (t := tTup 2 (tCons2 (tName 5) (tCons2 (tName 6) tNils))) (ts := asB (fOp opLe (fVar 5) (fVar 3))) (el := fVar 6) (vs := [5, 6]) hi trivial (by show (ps.map encS).length ≤ big; rw [List.length_map]; exact hb)
    (fun d => match d with
      | .tup [a, b] => [some (.d (.tup (ps.map encS))), some (.d (.int y)), some (.obj k), some (.d (.int x)), a4, some (.d a), some (.d b)]
      | _ => []) (leD x) (fun d => match d with
      | .tup [_, b] => b
      | _ => .non) (fun d hd => by
    obtain ⟨p, _, rfl⟩ := List.mem_map.mp hd
    rfl) (fun d hd => by
    obtain ⟨p, _, rfl⟩ := List.mem_map.mp hd
    rfl) (fun d hd _ => by
    obtain ⟨p, _, rfl⟩ := List.mem_map.mp hd
    rfl)
  have e0 : ((ivSeq (.d (.tup (ps.map encS))) (ps.map encS)).l.filter (leD x)) = (ps.filter fun p => decide (p.1 ≤ x)).map encS := filt_le
  rw [e0, List.map_map] at key
  have hl : atI ((ps.filter fun p => decide (p.1 ≤ x)).map ((fun d => match d with
      | .tup [_, b] => b
      | _ => .non) ∘ encS)) (-1) = some (.int q.2) := atI_last (by
    rw [List.getLast?_map]
    show Option.map _ (Pk.at_ ps x) = _
    rw [h]
    rfl)
  have key : bidsLc _ M = _ := key
  simp [key, hl]
abbrev envB (ps : List (Int × Int)) (last : Int) (k : Nat) (h : Int) (a4 : Option Val) : En := [some (.d (.tup (ps.map encS))), some (.d (.int last)), some (.obj k), some (.d (.int h)), a4, none, none]
/-- one bid more -/
theorem bids_round1 {ps : List (Int × Int)} {last h : Int} {q : Int × Int} {a4 : Option Val} {M0 : Mem} {found : List D} (hb : ps.length ≤ big) (hq : Pk.at_ ps h = some q) (hl : ¬ last < h) (hf : found.length < big) :
    bidsBody (envB ps last M0.length h a4) (M0 ++ [.lst found]) = .nx (envB ps last M0.length (h + q.2) a4) (M0 ++ [.lst (found ++ [.int h])]) := by
  have hg : (M0 ++ [MO.lst found])[M0.length]? = some (.lst found) := by
    rw [List.getElem?_append_right (Nat.le_refl _), Nat.sub_self]
    rfl
  have ha : fAppend (fVar 2) (fVar 3) (envB ps last M0.length h a4) (M0 ++ [.lst found]) = .ok (.d .non) (M0 ++ [.lst (found ++ [.int h])]) := by
    rw [x_append (M1 := M0 ++ [.lst found]) (k := M0.length) (l := found) (l2 := found) (x := .int h) rfl hg rfl hg hf, List.set_append_right _ _ (Nat.le_refl _), Nat.sub_self]
    rfl
  have hk := r_bidsLc (y := last) (k := M0.length) (a4 := a4) (M := M0 ++ [.lst (found ++ [.int h])]) hb hq
  have h3 : (fOp opAdd (fVar 3) (fOp opIx bidsLc (fNeg (fC (.int 1))))) (envB ps last M0.length h a4) (M0 ++ [.lst (found ++ [.int h])]) = .ok (.d (.int (h + q.2))) (M0 ++ [.lst (found ++ [.int h])]) := by
    rw [x_fOp]
    show rbind (fOp opIx bidsLc (fNeg (fC (.int 1))) (envB ps last M0.length h a4) (M0 ++ [.lst (found ++ [.int h])])) _ = _
    rw [hk]
    rfl
  unfold bidsBody
  rw [x_sSeq]
  have h1 : sIf (asB (fOp opGt (fVar 3) (fVar 1))) sBrk sNil (envB ps last M0.length h a4) (M0 ++ [.lst found]) = .nx (envB ps last M0.length h a4) (M0 ++ [.lst found]) := by
    simp [hl]
  rw [h1]
  dsimp only
  rw [x_sSeq, x_sExpr, ha, rO_ok]
  dsimp only
  rw [x_sSet, h3, rO_ok]
  rfl
/-- the rounds of _law_bids -/
theorem bids_loop {q0 : Int × Int} {r0 : List (Int × Int)} {last : Int} {M0 : Mem} (hb : (q0 :: r0).length ≤ big) (hc : Pk.Chain q0 r0) : ∀ (l : List D) (h : Int) (found : List D) (a4 : Option Val), q0.1 ≤ h → Pk.IsBid (q0 :: r0) h → found.length + l.length < big → (∀ x ∈ l, ∃ i, x = D.int i) →
    ∃ h2 a4', forF (fun _ => True) (tName 4) bidsBody l (envB (q0 :: r0) last M0.length h a4) (M0 ++ [.lst found]) = .nx (envB (q0 :: r0) last M0.length h2 a4') (M0 ++ [.lst (found ++ (Pk.bidsF (q0 :: r0) last l.length h).map D.int)])
  | [], h, found, a4, _, _, _, _ => ⟨h, a4, by rw [forF]; simp [Pk.bidsF]⟩
  | x :: l, h, found, a4, h0, hi, hf, hx => by
    obtain ⟨q, o, e, s, hd, hst, hn⟩ := Pk.bid_seg hc h0 hi
    obtain ⟨i, rfl⟩ := hx x List.mem_cons_self
    rw [forF]
    simp only [if_true]
    show ∃ h2 a4', (match bidsBody (envB (q0 :: r0) last M0.length h (some (.d (.int i)))) (M0 ++ [.lst found]) with
      | .nx e' M' => forF (fun _ => True) (tName 4) bidsBody l e' M'
      | .ct e' M' => forF (fun _ => True) (tName 4) bidsBody l e' M'
      | .bk e' M' => O.nx e' M'
      | o => o) = _
    by_cases hl : last < h
    · have hbk : bidsBody (envB (q0 :: r0) last M0.length h (some (.d (.int i)))) (M0 ++ [.lst found]) = .bk (envB (q0 :: r0) last M0.length h (some (.d (.int i)))) (M0 ++ [.lst found]) := by
        simp [bidsBody, hl]
      rw [hbk]
      refine ⟨h, some (.d (.int i)), ?_⟩
      rw [List.length_cons, Pk.bidsF, if_pos hl]
      simp
    · rw [bids_round1 hb e hl (by rw [List.length_cons] at hf; omega)]
      obtain ⟨q', e', hd'⟩ := Pk.next_bid s
      rw [hn] at e' hd'
      have hp := s.pos
      obtain ⟨h2, a4', ih⟩ := bids_loop hb hc l (h + q.2) (found ++ [.int h]) (some (.d (.int i))) (by omega) ⟨q', e', hd'⟩ (by
        have hf : found.length + (l.length + 1) < 16777216 := hf
        rw [List.length_append]
        show found.length + 1 + l.length < 16777216
        omega) fun y hy => hx y (List.mem_cons_of_mem _ hy)
      refine ⟨h2, a4', ?_⟩
      dsimp only
      rw [ih, List.length_cons, Pk.bidsF, if_neg hl, hst]
      simp
theorem r_bidsI {q0 : Int × Int} {r0 : List (Int × Int)} {last : Int} {m : Nat} {M0 : Mem} (hb : (q0 :: r0).length ≤ big) (hc : Pk.Chain q0 r0) (h0 : q0.1 = 0) (hs : smallI (last + 1)) (hm : (last + 1).toNat = m) (hn : 0 + m < big) :
    p__law_bids [.d (.tup ((q0 :: r0).map encS)), .d (.int last)] M0 = .ok (.d (.lst ((Pk.bidsF (q0 :: r0) last m 0).map D.int))) M0 := by
  have hbid : Pk.IsBid (q0 :: r0) 0 := by
    refine ⟨q0, Pk.at_here hc (by omega) (fun p hp => ?_), ?_⟩
    · cases r0 with
      | nil => cases hp
      | cons p' r' =>
        cases hp
        have := hc.above p List.mem_cons_self
        omega
    · unfold Pk.downB
      rw [h0]
      simp
  have hi := x_rng1 (fs := fCons (fOp opAdd (fVar 1) (fC (.int 1))) fNil) (e := envB (q0 :: r0) last M0.length 0 none) (M := M0 ++ [.lst []]) (M1 := M0 ++ [.lst []]) (j := last + 1) rfl hs
  rw [hm] at hi
  obtain ⟨h2, a4, hl⟩ := bids_loop (last := last) (M0 := M0) hb hc (rngD 0 m) 0 [] none (by omega) hbid (by rw [rngD_length]; exact hn) (fun x hx => by
    obtain ⟨i, _, rfl⟩ := List.mem_map.mp hx
    exact ⟨_, rfl⟩)
  rw [rngD_length] at hl
  generalize hfi : iRng1' (fCons (fOp opAdd (fVar 1) (fC (.int 1))) fNil) = fi at hi
  have hf : sFor fi (tName 4) bidsBody (envB (q0 :: r0) last M0.length 0 none) (M0 ++ [.lst []]) = .nx (envB (q0 :: r0) last M0.length h2 a4) (M0 ++ [.lst ([] ++ (Pk.bidsF (q0 :: r0) last m 0).map D.int)]) := by
    unfold sFor
    rw [hi]
    exact hl
  have hbody : b__law_bids = sSeq (sPar 2 3 (fCons (fObj fNil) (fCons (fC (.int 0)) fNil))) (sSeq (sFor fi (tName 4) bidsBody) (sRet (fVar 2))) := by
    rw [← hfi]
    rfl
  refine (x_call rfl (v := .obj M0.length) (M' := M0 ++ [.lst ([] ++ (Pk.bidsF (q0 :: r0) last m 0).map D.int)]) ?_).trans ?_
  · rw [hbody, x_sSeq]
    have h1 : sPar 2 3 (fCons (fObj fNil) (fCons (fC (.int 0)) fNil)) (env0 7 [.d (.tup ((q0 :: r0).map encS)), .d (.int last)]) M0 = .nx (envB (q0 :: r0) last M0.length 0 none) (M0 ++ [.lst []]) := rfl
    rw [h1]
    dsimp only
    rw [x_sSeq, hf]
    rfl
  · rw [List.nil_append]
    exact x_finishO
end Wk00
set_option Elab.async false
set_option linter.all false
set_option maxRecDepth 100000
set_option maxHeartbeats 2000000
/-! Vs3: comprehensions and loops over typed items. -/
namespace Vl
open PySem PySem.Spec PyProof.Rows L2 Vx
section
variable {α : Type} {xs : List α} {enc : α → D} {fi : En → Mem → R Iv} {t : D → En → Option En} {ts : BF} {el : EF} {vs : List Nat} {e : En} {M M1 : Mem} {v : Iv}
theorem x_lcTF {chk : Mem → Prop} (hc : chk M) (p : α → Bool) (g : α → D) : ∀ {xs : List α}, (∀ a ∈ xs, ∃ e1, t (enc a) e = some e1 ∧ ts e1 M = .ok (p a) M ∧ (p a = true → el e1 M = .ok (.d (g a)) M)) →
    lcF chk t ts el e (xs.map enc) M = .ok ((xs.filter p).map g) M
  | [], _ => by
    rw [List.map_nil, lcF, if_pos hc]; rfl
  | x :: l, h => by
    have ih := x_lcTF hc p g (xs := l) (fun y hy => h y (List.mem_cons_of_mem _ hy))
    obtain ⟨e1, h1, h2, h3⟩ := h x List.mem_cons_self
    rw [List.map_cons, lcF, if_pos hc, h1]
    dsimp only
    rw [h2]
    dsimp only
    cases hp : p x with
    | false => rw [if_neg Bool.false_ne_true, ih, List.filter_cons_of_neg (by rw [hp]; exact Bool.false_ne_true)]
    | true =>
      rw [if_pos rfl, h3 hp, List.filter_cons_of_pos hp, List.map_cons]
      dsimp only [lcPut]
      rw [ih]
/-- a comprehension over typed items that leaves the store as it is -/
theorem x_lcT (hi : fi e M = .ok v M1) (hv : v.l = xs.map enc) (hc : v.chk M1) (hb : xs.length ≤ big) (p : α → Bool) (g : α → D)
    (h : ∀ a ∈ xs, ∃ e1, t (enc a) (wipeE e vs) = some e1 ∧ ts e1 M1 = .ok (p a) M1 ∧ (p a = true → el e1 M1 = .ok (.d (g a)) M1)) :
    fLc fi t ts el vs e M = .ok (.d (.lst ((xs.filter p).map g))) M1 := by
  unfold fLc
  rw [hi]
  dsimp only
  rw [hv, List.length_map, if_pos hb, x_lcTF hc p g h]
/-- .. without a test -/
theorem x_lcT1 (hi : fi e M = .ok v M1) (hv : v.l = xs.map enc) (hc : v.chk M1) (hb : xs.length ≤ big) (g : α → D)
    (h : ∀ a ∈ xs, ∃ e1, t (enc a) (wipeE e vs) = some e1 ∧ ts e1 M1 = .ok true M1 ∧ el e1 M1 = .ok (.d (g a)) M1) :
    fLc fi t ts el vs e M = .ok (.d (.lst (xs.map g))) M1 := by
  have := x_lcT hi hv hc hb (fun _ => true) g (fun a ha => let ⟨e1, h1, h2, h3⟩ := h a ha; ⟨e1, h1, h2, fun _ => h3⟩)
  rw [List.filter_eq_self.mpr (fun _ _ => rfl)] at this
  exact this
/-- the iterables -/
theorem x_seqT {f : EF} (hf : f e M = .ok (.d (.tup (xs.map enc))) M1) : iSeq f e M = .ok (ivSeq (.d (.tup (xs.map enc))) (xs.map enc)) M1 := by
  unfold iSeq
  rw [hf]; rfl
theorem x_seqL {f : EF} (hf : f e M = .ok (.d (.lst (xs.map enc))) M1) : iSeq f e M = .ok (ivSeq (.d (.lst (xs.map enc))) (xs.map enc)) M1 := by
  unfold iSeq
  rw [hf]; rfl
end
section
variable {α σ : Type} {enc : α → D} {chk : Mem → Prop} {tg : D → En → Option En} {body : SF} {E : σ → En} {Mf : σ → Mem}
/-- a loop as a fold -/
theorem x_forT (step : σ → α → σ) (hc : ∀ s, chk (Mf s)) : ∀ {xs : List α} (s : σ) (_ : ∀ a ∈ xs, ∀ s, ∃ e1, tg (enc a) (E s) = some e1 ∧ body e1 (Mf s) = .nx (E (step s a)) (Mf (step s a))),
    forF chk tg body (xs.map enc) (E s) (Mf s) = .nx (E (xs.foldl step s)) (Mf (xs.foldl step s))
  | [], s, _ => by rw [List.map_nil, forF]; simp only [hc s, if_true]; rfl
  | a :: xs, s, h => by
    obtain ⟨e1, h1, h2⟩ := h a List.mem_cons_self s
    rw [List.map_cons, forF]; simp only [hc s, if_true, h1]
    rw [h2]
    exact x_forT step hc (step s a) fun b hb => h b (List.mem_cons_of_mem _ hb)
end
/-- a loop by an invariant over the typed rest; every round goes on -/
theorem x_forR {α : Type} {enc : α → D} {chk : Mem → Prop} {tg : D → En → Option En} {body : SF} {P : List α → En → Mem → Prop} (step : ∀ a r e M, P (a :: r) e M → chk M ∧ ∃ e1, tg (enc a) e = some e1 ∧ ∃ e2 M2, body e1 M = .nx e2 M2 ∧ P r e2 M2) (fin : ∀ e M, P [] e M → chk M) :
    ∀ (xs : List α) (e : En) (M : Mem), P xs e M → ∃ e2 M2, forF chk tg body (xs.map enc) e M = .nx e2 M2 ∧ P [] e2 M2
  | [], e, M, h => ⟨e, M, by rw [List.map_nil, forF]; simp only [fin e M h, if_true], h⟩
  | a :: r, e, M, h => by
    obtain ⟨hc, e1, h1, e2, M2, h2, hp⟩ := step a r e M h
    obtain ⟨e3, M3, h3, hp3⟩ := x_forR step fin r e2 M2 hp
    refine ⟨e3, M3, ?_, hp3⟩
    rw [List.map_cons, forF]; simp only [hc, if_true, h1]
    rw [h2]
    exact h3
/-- .. that may end early -/
theorem x_forE {α : Type} {enc : α → D} {chk : Mem → Prop} {tg : D → En → Option En} {body : SF} {Q : O → Prop} {P : List α → En → Mem → Prop} (step : ∀ a r e M, P (a :: r) e M → chk M ∧ ∃ e1, tg (enc a) e = some e1 ∧ stepO (P r) Q (body e1 M)) (fin : ∀ e M, P [] e M → chk M ∧ Q (.nx e M)) :
    ∀ (xs : List α) (e : En) (M : Mem), P xs e M → Q (forF chk tg body (xs.map enc) e M)
  | [], e, M, h => by
    obtain ⟨hc, hq⟩ := fin e M h
    rw [List.map_nil, forF]; simp only [hc, if_true]
    exact hq
  | a :: r, e, M, h => by
    obtain ⟨hc, e1, h1, hs⟩ := step a r e M h
    rw [List.map_cons, forF]; simp only [hc, if_true, h1]
    revert hs
    cases hb : body e1 M with
    | nx e2 M2 => exact fun hs => x_forE step fin r e2 M2 hs
    | ct e2 M2 => exact fun hs => x_forE step fin r e2 M2 hs
    | bk e2 M2 => exact fun hs => hs
    | rt v M2 => exact fun hs => hs
    | er x e2 M2 => exact fun hs => hs
    | bad => exact fun hs => hs.elim
/-! ### == on data -/
/-- a shape that == can compare, at most n deep -/
def Sh (n : Nat) (d : D) : Prop := (toPy d).canLay0 = true ∧ (toPy d).depth ≤ n
theorem shL {n : Nat} : ∀ {l : List D}, (PyData.canLayAll0 (toPys l) = true ∧ PyData.depthAll (toPys l) ≤ n) ↔ ∀ x ∈ l, Sh n x
  | [] => by simp [toPys, PyData.canLayAll0, PyData.depthAll]
  | x :: l => by
    have ih := shL (n := n) (l := l)
    simp only [toPys, PyData.canLayAll0, PyData.depthAll, Bool.and_eq_true, List.mem_cons, forall_eq_or_imp, ← ih]
    unfold Sh
    constructor
    · rintro ⟨⟨a, b⟩, c⟩
      exact ⟨⟨a, by omega⟩, b, by omega⟩
    · rintro ⟨⟨a, b⟩, c, d⟩
      exact ⟨⟨a, c⟩, by omega⟩
section
variable {n : Nat} {M : Mem}
@[simp] theorem sh_int (i : Int) : Sh n (.int i) := ⟨rfl, Nat.zero_le _⟩
@[simp] theorem sh_bl (i : Bool) : Sh n (.bl i) := ⟨rfl, Nat.zero_le _⟩
@[simp] theorem sh_non : Sh n .non := ⟨rfl, Nat.zero_le _⟩
theorem sh_str (x : Str) : Sh n (.str x) ↔ SeqAt.shaped (.str x) = true := by
  unfold Sh SeqAt.shaped
  simp [toPy, PyData.depth]
@[simp] theorem sh_tup (l : List D) : Sh (n + 1) (.tup l) ↔ ∀ x ∈ l, Sh n x := by
  rw [← shL]
  unfold Sh
  simp only [toPy, PyData.canLay0, PyData.depth, Nat.add_le_add_iff_right]
@[simp] theorem sh_lst (l : List D) : Sh (n + 1) (.lst l) ↔ ∀ x ∈ l, Sh n x := by
  rw [← shL]
  unfold Sh
  simp only [toPy, PyData.canLay0, PyData.depth, Nat.add_le_add_iff_right]
theorem Sh.mono {m : Nat} {d : D} (h : Sh n d) (hm : n ≤ m) : Sh m d := ⟨h.1, Nat.le_trans h.2 hm⟩
theorem Sh.ok {d : D} (h : Sh n d) (hn : n ≤ 64 := by decide) : SeqAt.shaped (toPy d) = true := by
  unfold SeqAt.shaped
  rw [h.1, Bool.true_and, decide_eq_true_eq]
  exact Nat.le_trans h.2 hn
/-- Python's == on data -/
def eqD (a b : D) : Bool := PyData.eqv (toPy a) (toPy b)
def eqL (a b : List D) : Bool := PyData.eqvAll (toPys a) (toPys b)
theorem x_eq {a b : D} {m : Nat} (ha : Sh n a) (hb : Sh m b) (hn : n ≤ 64 := by decide) (hm : m ≤ 64 := by decide) : opEq (.d a) (.d b) M = .ok (.d (.bl (eqD a b))) M := by
  unfold opEq
  rw [if_pos ⟨ha.ok hn, hb.ok hm⟩]
  rfl
theorem x_ne {a b : D} {m : Nat} (ha : Sh n a) (hb : Sh m b) (hn : n ≤ 64 := by decide) (hm : m ≤ 64 := by decide) : opNe (.d a) (.d b) M = .ok (.d (.bl (!eqD a b))) M := by
  unfold opNe
  rw [if_pos ⟨ha.ok hn, hb.ok hm⟩]
  rfl
theorem bv_dec {a b : Int} : (a == b) = decide (a = b) := by
  by_cases h : a = b <;> simp [h]
@[simp] theorem eqD_int (i j : Int) : eqD (.int i) (.int j) = decide (i = j) := by
  unfold eqD
  simp only [toPy, PyData.eqv]
  by_cases h : i = j <;> simp [h]
@[simp] theorem eqD_bl (i j : Bool) : eqD (.bl i) (.bl j) = decide (i = j) := by
  cases i <;> cases j <;> rfl
@[simp] theorem eqD_bi (i : Bool) (j : Int) : eqD (.bl i) (.int j) = decide ((if i then 1 else 0) = j) := by
  unfold eqD
  simp only [toPy, PyData.eqv]
  by_cases h : (if i then 1 else 0) = j <;> simp [h]
@[simp] theorem eqD_ib (i : Bool) (j : Int) : eqD (.int j) (.bl i) = decide (j = (if i then 1 else 0)) := by
  unfold eqD
  simp only [toPy, PyData.eqv]
  by_cases h : j = (if i then 1 else 0) <;> simp [h]
@[simp] theorem eqD_str (i j : Str) : eqD (.str i) (.str j) = decide (i = j) := by
  unfold eqD
  simp only [toPy, PyData.eqv]
  by_cases h : i = j <;> simp [h]
@[simp] theorem eqD_non : eqD .non .non = true := rfl
@[simp] theorem eqD_tt (i j : List D) : eqD (.tup i) (.tup j) = eqL i j := rfl
@[simp] theorem eqD_ll (i j : List D) : eqD (.lst i) (.lst j) = eqL i j := rfl
@[simp] theorem eqD_tl (i j : List D) : eqD (.tup i) (.lst j) = false := rfl
@[simp] theorem eqD_lt (i j : List D) : eqD (.lst i) (.tup j) = false := rfl
@[simp] theorem eqD_nt (j : List D) : eqD .non (.tup j) = false := rfl
@[simp] theorem eqD_tn (j : List D) : eqD (.tup j) .non = false := rfl
@[simp] theorem eqD_ni (j : Int) : eqD .non (.int j) = false := rfl
@[simp] theorem eqD_in (j : Int) : eqD (.int j) .non = false := rfl
@[simp] theorem eqD_ns (j : Str) : eqD .non (.str j) = false := rfl
@[simp] theorem eqD_sn (j : Str) : eqD (.str j) .non = false := rfl
@[simp] theorem eqD_is (i : Int) (j : Str) : eqD (.int i) (.str j) = false := rfl
@[simp] theorem eqD_si (i : Int) (j : Str) : eqD (.str j) (.int i) = false := rfl
@[simp] theorem eqL_nil : eqL [] [] = true := rfl
@[simp] theorem eqL_nc (x : D) (l : List D) : eqL [] (x :: l) = false := rfl
@[simp] theorem eqL_cn (x : D) (l : List D) : eqL (x :: l) [] = false := rfl
@[simp] theorem eqL_cons (x y : D) (l r : List D) : eqL (x :: l) (y :: r) = (eqD x y && eqL l r) := rfl
theorem eqL_map {α : Type} [DecidableEq α] {enc : α → D} (h : ∀ a b, eqD (enc a) (enc b) = decide (a = b)) : ∀ xs ys : List α, eqL (xs.map enc) (ys.map enc) = decide (xs = ys)
  | [], [] => rfl
  | [], y :: ys => rfl
  | x :: xs, [] => rfl
  | x :: xs, y :: ys => by
    rw [List.map_cons, List.map_cons, eqL_cons, h, eqL_map h xs ys]
    by_cases h1 : x = y <;> by_cases h2 : xs = ys <;> simp [h1, h2]
end
theorem eqL_ne {l r : List D} (h : l.length ≠ r.length) : eqL l r = false := by
  induction l generalizing r with
  | nil =>
    cases r with
    | nil => exact absurd rfl h
    | cons _ _ => rfl
  | cons x l ih =>
    cases r with
    | nil => rfl
    | cons y r =>
      rw [eqL_cons, ih (by simpa using h), Bool.and_false]
@[simp] theorem intsOf_map (l : List Int) : intsOf (l.map D.int) = some l := by
  induction l with
  | nil => rfl
  | cons x l ih => rw [List.map_cons, intsOf, ih]; rfl
@[simp] theorem blsOf_map (l : List Bool) : blsOf (l.map D.bl) = some l := by
  induction l with
  | nil => rfl
  | cons x l ih => rw [List.map_cons, blsOf, ih]; rfl
theorem x_minI {M : Mem} {l : List Int} {m : Int} (h : minL l = some m) : bMin [.d (.lst (l.map D.int))] M = .ok (.d (.int m)) M := by
  show (match intsOf (l.map D.int) with
      | some ns => (match minL ns with
        | some m => R.ok (Val.d (.int m)) M
        | none => .bad)
      | none => .bad) = _
  rw [intsOf_map]
  dsimp only
  rw [h]
theorem x_maxI {M : Mem} {l : List Int} {m : Int} (h : maxL l = some m) : bMax [.d (.lst (l.map D.int))] M = .ok (.d (.int m)) M := by
  show (match intsOf (l.map D.int) with
      | some ns => (match maxL ns with
        | some m => R.ok (Val.d (.int m)) M
        | none => .bad)
      | none => .bad) = _
  rw [intsOf_map]
  dsimp only
  rw [h]
section
variable {α : Type} (M : Mem) (l : List α)
theorem x_minL (g : α → Int) {m : Int} (h : minL (l.map g) = some m) : bMin [.d (.lst (l.map fun a => D.int (g a)))] M = .ok (.d (.int m)) M := by
  have e : l.map (fun a => D.int (g a)) = (l.map g).map D.int := by rw [List.map_map]; rfl
  rw [e]
  show (match intsOf ((l.map g).map D.int) with
      | some ns => (match minL ns with
        | some m => R.ok (Val.d (.int m)) M
        | none => .bad)
      | none => .bad) = _
  rw [intsOf_map]
  dsimp only
  rw [h]
theorem x_maxL (g : α → Int) {m : Int} (h : maxL (l.map g) = some m) : bMax [.d (.lst (l.map fun a => D.int (g a)))] M = .ok (.d (.int m)) M := by
  have e : l.map (fun a => D.int (g a)) = (l.map g).map D.int := by rw [List.map_map]; rfl
  rw [e]
  show (match intsOf ((l.map g).map D.int) with
      | some ns => (match maxL ns with
        | some m => R.ok (Val.d (.int m)) M
        | none => .bad)
      | none => .bad) = _
  rw [intsOf_map]
  dsimp only
  rw [h]
end
@[simp] theorem x_addL (M : Mem) (a b : List D) : opAdd (.d (.lst a)) (.d (.lst b)) M = if a.length + b.length ≤ big then .ok (.d (.lst (a ++ b))) M else .bad := rfl
@[simp] theorem x_addT (M : Mem) (a b : List D) : opAdd (.d (.tup a)) (.d (.tup b)) M = if a.length + b.length ≤ big then .ok (.d (.tup (a ++ b))) M else .bad := rfl
@[simp] theorem x_addS (M : Mem) (a b : Str) : opAdd (.d (.str a)) (.d (.str b)) M = if a.length + b.length ≤ big then .ok (.d (.str (a ++ b))) M else .bad := rfl
theorem x_finishA {M0 M1 J : Mem} (d : D) (h : M1.length = M0.length) (hk : M1.all (okO M0.length) = true) : finish M0 (.d d) (M1 ++ J) = .ok (.d d) M1 :=
  x_finishD d h fun k o e => .inr (List.all_eq_true.mp hk o (List.mem_of_getElem? e))
end Vl
set_option Elab.async false
set_option linter.all false
set_option maxRecDepth 100000
set_option maxHeartbeats 2000000
/-! Vs4: any data are alike to themselves; small things. -/
namespace Vl
open PySem PySem.Spec PyProof.Rows L2 Vx
/-- data that _law_alike can look through, n deep -/
def Al : Nat → D → Prop
  | _, .int _ => True
  | _, .bl _ => True
  | _, .non => True
  | _, .str z => SeqAt.shaped (.str z) = true
  | n + 1, .tup l => l.length ≤ big ∧ ∀ x ∈ l, Al n x
  | n + 1, .lst l => l.length ≤ big ∧ ∀ x ∈ l, Al n x
  | _, _ => False
section
variable {n : Nat}
@[simp] theorem al_int (i : Int) : Al n (.int i) ↔ True := by cases n <;> simp [Al]
@[simp] theorem al_bl (i : Bool) : Al n (.bl i) ↔ True := by cases n <;> simp [Al]
@[simp] theorem al_non : Al n .non ↔ True := by cases n <;> simp [Al]
@[simp] theorem al_str (z : Str) : Al n (.str z) ↔ SeqAt.shaped (.str z) = true := by cases n <;> simp [Al]
@[simp] theorem al_tup (l : List D) : Al (n + 1) (.tup l) ↔ l.length ≤ big ∧ ∀ x ∈ l, Al n x := by simp [Al]
@[simp] theorem al_lst (l : List D) : Al (n + 1) (.lst l) ↔ l.length ≤ big ∧ ∀ x ∈ l, Al n x := by simp [Al]
end
theorem alike_all {p : Nat → List Val → Mem → R Val} (hp : ∀ n, p (n + 1) = phi 3 2 (alikeG (alikeLC (p n)))) (M : Mem) : ∀ (n : Nat) (d : D), Al n d → p (n + 1) [.d d, .d d] M = .ok (.d (.bl true)) M
  | n, .int i, _ => by rw [hp]; exact alike_i i
  | n, .bl i, _ => by rw [hp]; exact alike_b i
  | n, .non, _ => by rw [hp]; exact alike_n
  | n, .str z, h => by rw [hp]; exact alike_s z ((al_str z).mp h)
  | 0, .tup l, h => by simp [Al] at h
  | 0, .lst l, h => by simp [Al] at h
  | n + 1, .tup l, h => by
    obtain ⟨h1, h2⟩ := (al_tup l).mp h
    rw [hp]
    exact alikeG_t (alikeLC_t h1 fun x hx => alike_all hp M n x (h2 x hx))
  | n + 1, .lst l, h => by
    obtain ⟨h1, h2⟩ := (al_lst l).mp h
    rw [hp]
    exact alikeG_l (alikeLC_l h1 fun x hx => alike_all hp M n x (h2 x hx))
  | 0, .scr _, h => by simp [Al] at h
  | n + 1, .scr _, h => by simp [Al] at h
  | 0, .dct _, h => by simp [Al] at h
  | n + 1, .dct _, h => by simp [Al] at h
  | 0, .ins _ _, h => by simp [Al] at h
  | n + 1, .ins _ _, h => by simp [Al] at h
  | 0, .glo _, h => by simp [Al] at h
  | n + 1, .glo _, h => by simp [Al] at h
/-- x in a list of ints -/
theorem x_inI (neg : Bool) (i : Int) (l : List Int) (M : Mem) : opIn neg (.d (.int i)) (.d (.lst (l.map D.int))) M = .ok (.d (.bl (if neg then !decide (i ∈ l) else decide (i ∈ l)))) M := by
  have hs : SeqAt.shaped (.list (toPys (l.map D.int))) = true := by
    have : Sh 1 (.lst (l.map D.int)) := (sh_lst _).mpr fun x hx => by
      obtain ⟨j, _, rfl⟩ := List.mem_map.mp hx
      exact sh_int j
    exact this.ok
  have ha : ((toPys (l.map D.int)).any fun z => PyData.eqv z (.int i)) = decide (i ∈ l) := by
    induction l with
    | nil => rfl
    | cons x l ih =>
      have hs' : SeqAt.shaped (.list (toPys (l.map D.int))) = true := by
        have : Sh 1 (.lst (l.map D.int)) := (sh_lst _).mpr fun x hx => by
          obtain ⟨j, _, rfl⟩ := List.mem_map.mp hx
          exact sh_int j
        exact this.ok
      rw [List.map_cons]
      show (PyData.eqv (.int x) (.int i) || _) = _
      rw [ih hs']
      by_cases h1 : x = i
      · subst h1; simp [PyData.eqv]
      · have h2 : ¬ i = x := fun z => h1 z.symm
        simp [PyData.eqv, h1, h2]
  show (if SeqAt.shaped (.int i) = true ∧ SeqAt.shaped (.list (toPys (l.map D.int))) = true then inRes neg ((toPys (l.map D.int)).any fun z => PyData.eqv z (.int i)) M else .bad) = _
  rw [if_pos ⟨rfl, hs⟩, ha]
  rfl
@[simp] theorem x_bLen_map {α : Type} (f : α → D) (l : List α) (M : Mem) : bLen [.d (.lst (l.map f))] M = .ok (.d (.int l.length)) M := by
  rw [x_len_lst, List.length_map]
/-- 0, 1, .. -/
theorem rngD_map (n : Nat) : (ivRng 0 n).l = (List.range n).map fun i : Nat => D.int (i : Int) := by
  show (List.range n).map (fun i : Nat => D.int (0 + (i : Int))) = _
  simp
end Vl
set_option Elab.async false
set_option linter.all false
set_option maxRecDepth 100000
set_option maxHeartbeats 2000000
/-! Vs5: from statement to statement. -/
namespace Vl
open PySem PySem.Spec PyProof.Rows L2 Vx
section
variable {F G : SF} {e e1 : En} {M M1 : Mem} {Q : O → Prop} {f : EF}
theorem w_seq (h : F e M = .nx e1 M1) (k : Q (G e1 M1)) : Q (sSeq F G e M) := by
  rw [x_sSeq, h]
  exact k
/-- a statement that may end the def -/
def afterO (Q : O → Prop) (G : SF) : O → Prop
  | .nx e M => Q (G e M)
  | o => Q o
theorem w_seq' (h : afterO Q G (F e M)) : Q (sSeq F G e M) := by
  rw [x_sSeq]
  revert h
  cases F e M with
  | nx e1 M1 => exact fun h => h
  | rt v M1 => exact fun h => h
  | bk e1 M1 => exact fun h => h
  | ct e1 M1 => exact fun h => h
  | er x e1 M1 => exact fun h => h
  | bad => exact fun h => h
theorem w_ret {v : Val} (h : f e M = .ok v M1) (k : Q (.rt v M1)) : Q (sRet f e M) := by
  rw [x_sRet, h]
  exact k
theorem w_forL {α : Type} {xs : List α} {enc : α → D} {fi : En → Mem → R Iv} {tg : D → En → Option En} {body : SF} {v : Iv} (hi : fi e M = .ok v M1) (hv : v.l = xs.map enc) (P : List α → En → Mem → Prop)
    (init : P xs e M1) (step : ∀ a r e M, P (a :: r) e M → v.chk M ∧ ∃ e1, tg (enc a) e = some e1 ∧ stepO (P r) Q (body e1 M)) (fin : ∀ e M, P [] e M → v.chk M ∧ Q (.nx e M)) : Q (sFor fi tg body e M) := by
  unfold sFor
  rw [hi]
  dsimp only
  rw [hv]
  exact x_forE step fin xs e M1 init
theorem w_for {α : Type} {xs : List α} {enc : α → D} {fi : En → Mem → R Iv} {tg : D → En → Option En} {body : SF} {v : Iv} (hi : fi e M = .ok v M1) (hv : v.l = xs.map enc) (P : List α → En → Mem → Prop)
    (init : P xs e M1) (step : ∀ a r e M, P (a :: r) e M → v.chk M ∧ ∃ e1, tg (enc a) e = some e1 ∧ stepO (P r) (afterO Q G) (body e1 M)) (fin : ∀ e M, P [] e M → v.chk M ∧ Q (G e M)) : Q (sSeq (sFor fi tg body) G e M) :=
  w_seq' (w_forL (Q := afterO Q G) hi hv P init step fin)
/-- every round goes on -/
theorem w_forN {α : Type} {xs : List α} {enc : α → D} {fi : En → Mem → R Iv} {tg : D → En → Option En} {body : SF} {v : Iv} (hi : fi e M = .ok v M1) (hv : v.l = xs.map enc) (hc : ∀ M, v.chk M) (P : List α → En → Mem → Prop)
    (init : P xs e M1) (step : ∀ a r e M, P (a :: r) e M → ∃ e1, tg (enc a) e = some e1 ∧ ∃ e2 M2, body e1 M = .nx e2 M2 ∧ P r e2 M2) (fin : ∀ e M, P [] e M → Q (G e M)) : Q (sSeq (sFor fi tg body) G e M) :=
  w_for hi hv P init (fun a r e M h => let ⟨e1, h1, e2, M2, h2, h3⟩ := step a r e M h; ⟨hc M, e1, h1, by rw [h2]; exact h3⟩) fun e M h => ⟨hc M, fin e M h⟩
theorem w_if_no {p : BF} {A B : SF} (h : p e M = .ok false M1) (k : Q (B e M1)) : Q (sIf p A B e M) := by
  rw [x_sIf, h]
  exact k
theorem w_if_yes {p : BF} {A B : SF} (h : p e M = .ok true M1) (k : Q (A e M1)) : Q (sIf p A B e M) := by
  rw [x_sIf, h]
  exact k
/-- `if ..: return ..`, not so -/
theorem w_pass {p : BF} {A : SF} (h : p e M = .ok false M1) (k : Q (G e M1)) : Q (sSeq (sIf p A sNil) G e M) := by
  rw [x_sSeq, x_sIf, h]
  exact k
/-- a def's answer -/
def Rets (R' : R Val → Prop) (M : Mem) (o : O) : Prop := ∃ v M', o = O.rt v M' ∧ R' (finish M v M')
theorem w_call {n m : Nat} {ws : List Val} {R' : R Val → Prop} (hm : ws.length = m) (h : Rets R' M (F (env0 n ws) M)) : R' (phi n m F ws M) := by
  obtain ⟨v, M', h1, h2⟩ := h
  rw [x_call hm h1]
  exact h2
end
theorem x_sPar3 (i j l : Nat) (fs : En → Mem → R (List Val)) (e : En) (M : Mem) : sPar3 i j l fs e M = rOs (fs e M) e fun vs M1 => match vs with
  | [v, w, x] => .nx (((e.set i (some v)).set j (some w)).set l (some x)) M1
  | _ => .bad := rfl
@[simp] theorem x_wipe0 (e : En) : wipeE e [] = e := rfl
@[simp] theorem x_wipeS (e : En) (i : Nat) (r : List Nat) : wipeE e (i :: r) = (wipeE e r).set i none := rfl
end Vl
set_option Elab.async false
set_option linter.all false
set_option maxRecDepth 100000
set_option maxHeartbeats 1000000
/-! Nk00: rungs, the drawn steps, what is refused. -/
namespace Wk00
open PySem PySem.Spec PyProof.Rows L2 Vl Vx
@[simp] theorem x_sAug (c : Int → Int → Int) (i : Nat) (f : EF) (e : En) (M : Mem) : sAug c i f e M = match e[i]? with
  | some (some (.d (.int a))) => rO (f e M) e fun v M1 => (match v with
    | .d (.int b) => .nx (e.set i (some (.d (.int (c a b))))) M1
    | _ => .bad)
  | _ => .bad := rfl
/-! ### rungs -/
noncomputable def rungsLc : EF := (fLc (iSeq (fAttr ["Ladder"] "steps" (fVar 0))) (tTup 2 (tCons2 (tName 10) (tCons2 (tName 11) tNils))) (asB (fOp opGt (fVar 10) (fVar 5))) (fVar 10) [10, 11])
noncomputable def rungsBody : SF := (sSeq (sSet 7 rungsLc)
  (sSeq (sSet 8 (fun e M => rbind ((fCons (fOp opAdd (fVar 7) (fLst (fCons (fOp opAdd (fVar 2) (fC (.int 1))) fNil))) fNil) e M) bMin))
  (sSeq (sSet 9 (fun e M => rbind ((fCons (fVar 4) (fCons (fVar 5) fNil)) e M) bMax))
  (sIf (asB (fOp opLt (fVar 9) (fVar 8))) (sAug (fun a b => a + b) 3 (fOp opAdd (fOp opFdiv (fOp opSub (fOp opSub (fVar 8) (fC (.int 1))) (fVar 9)) (fVar 6)) (fC (.int 1)))) sNil))))
abbrev envR (ps : List (Int × Int)) (first last many here : Int) (b5 b6 b7 b8 b9 : Option Val) : En := [some (.d (lad ps)), some (.d (.int first)), some (.d (.int last)), some (.d (.int many)), some (.d (.int here)), b5, b6, b7, b8, b9, none, none]
theorem foldl_min_ge : ∀ {l : List Int} {x : Int}, (∀ y ∈ l, x ≤ y) → l.foldl min x = x
  | [], _, _ => rfl
  | y :: l, x, h => by
    rw [List.foldl_cons, show min x y = x from Int.min_eq_left (h y List.mem_cons_self)]
    exact foldl_min_ge fun z hz => h z (List.mem_cons_of_mem _ hz)
theorem min_ends {last : Int} : ∀ {r : List (Int × Int)}, r.Pairwise (fun a b => a.1 < b.1) → minL (r.map (·.1) ++ [last + 1]) = some (Pk.endOf last r)
  | [], _ => rfl
  | p :: r, h => by
    have h := (List.pairwise_cons.mp h).1
    show some (List.foldl min p.1 (r.map (·.1) ++ [last + 1])) = _
    rw [List.foldl_append, foldl_min_ge (l := r.map (·.1)) (x := p.1) fun y hy => by
      obtain ⟨q, hq, rfl⟩ := List.mem_map.mp hy
      exact Int.le_of_lt (h q hq)]
    rfl
theorem filt_gt {pre r : List (Int × Int)} {q : Int × Int} (h : (pre ++ q :: r).Pairwise fun a b => a.1 < b.1) : ((pre ++ q :: r).filter fun p => decide (q.1 < p.1)) = r := by
  obtain ⟨h1, h2, h3⟩ := List.pairwise_append.mp h
  have h4 := (List.pairwise_cons.mp h2).1
  rw [List.filter_append, List.filter_eq_nil_iff.mpr (fun p hp => by have := h3 p hp q List.mem_cons_self; simp; omega), List.filter_cons_of_neg (by simp), List.nil_append, List.filter_eq_self.mpr (fun p hp => by simpa using h4 p hp)]
section
variable {pre r : List (Int × Int)} {q : Int × Int} {first last many here : Int} {M : Mem}
theorem r_rungsLc (hb : (pre ++ q :: r).length < big) (asc : (pre ++ q :: r).Pairwise fun a b => a.1 < b.1) (c7 c8 c9 : Option Val) :
    rungsLc (envR (pre ++ q :: r) first last many here (some (.d (.int q.1))) (some (.d (.int q.2))) c7 c8 c9) M = .ok (.d (.lst (r.map fun p => D.int p.1))) M := by
  have hL := lad_insD M (pre ++ q :: r)
  have hf : fAttr ["Ladder"] "steps" (fVar 0) (envR (pre ++ q :: r) first last many here (some (.d (.int q.1))) (some (.d (.int q.2))) c7 c8 c9) M = .ok (.d (.tup ((pre ++ q :: r).map encS))) M := by
    simp [hL]
  have key := x_lcT (t := tTup 2 (tCons2 (tName 10) (tCons2 (tName 11) tNils))) (ts := asB (fOp opGt (fVar 10) (fVar 5))) (el := fVar 10) (vs := [10, 11]) (x_seqT hf) rfl trivial (Nat.le_of_lt hb) (fun p => decide (q.1 < p.1)) (fun p => D.int p.1) (fun p hp => ⟨_, rfl, rfl, fun _ => rfl⟩)
  rw [filt_gt asc] at key
  exact key
theorem max_if (a b : Int) : (if b > a then b else a) = max a b := by
  by_cases h : b > a
  · rw [if_pos h]; omega
  · rw [if_neg h]; omega
theorem rungs_round (hb : (pre ++ q :: r).length < big) (asc : (pre ++ q :: r).Pairwise fun a b => a.1 < b.1) (hq : 0 < q.2) (hq2 : q.2 < 1073741824) (c7 c8 c9 : Option Val) :
    ∃ b7 b8 b9, rungsBody (envR (pre ++ q :: r) first last many here (some (.d (.int q.1))) (some (.d (.int q.2))) c7 c8 c9) M = .nx (envR (pre ++ q :: r) first last (many + Pk.cnt (max here q.1) (Pk.endOf last r) q.2) here (some (.d (.int q.1))) (some (.d (.int q.2))) b7 b8 b9) M := by
  have h1 := r_rungsLc (first := first) (last := last) (many := many) (here := here) (M := M) hb asc c7 c8 c9
  have hr : r.length ≤ 16777215 := by
    have hb : (pre ++ q :: r).length < 16777216 := hb
    simp at hb
    omega
  have hr2 : r.Pairwise (fun a b => a.1 < b.1) := (List.pairwise_cons.mp (List.pairwise_append.mp asc).2.1).2
  have h2 : bMin [.d (.lst ((r.map fun p => D.int p.1) ++ [D.int (last + 1)]))] M = .ok (.d (.int (Pk.endOf last r))) M := by
    have e : (r.map fun p => D.int p.1) ++ [D.int (last + 1)] = (r.map (·.1) ++ [last + 1]).map D.int := by
      rw [List.map_append, List.map_map]; rfl
    rw [e]
    exact x_minI (min_ends hr2)
  have hc : ∀ i, CDiv i q.2 := fun i => ⟨hq, hq2⟩
  refine ⟨some (.d (.lst (r.map fun p => D.int p.1))), some (.d (.int (Pk.endOf last r))), some (.d (.int (max here q.1))), ?_⟩
  unfold rungsBody Pk.cnt
  rw [x_sSeq, x_sSet, h1]
  by_cases hl : max here q.1 < Pk.endOf last r
  · rw [if_pos hl]
    simp [h2, max_if, hl, hr, hc]
  · rw [if_neg hl]
    simp [h2, max_if, hl, hr]
end
theorem rungs_loop {ps : List (Int × Int)} {first last here total : Int} {M : Mem} (hb : ps.length < big) (asc : ps.Pairwise fun a b => a.1 < b.1) (hp : ∀ q ∈ ps, 0 < q.2 ∧ q.2 < 1073741824) (ht : total = Pk.rg here last ps) (c5 c6 c7 c8 c9 : Option Val) :
    ∃ b5 b6 b7 b8 b9, forF (fun _ => True) (tTup 2 (tCons2 (tName 5) (tCons2 (tName 6) tNils))) rungsBody (ps.map encS) (envR ps first last 0 here c5 c6 c7 c8 c9) M = .nx (envR ps first last total here b5 b6 b7 b8 b9) M := by
  obtain ⟨e2, M2, h1, hM, pre, many, b5, b6, b7, b8, b9, hps, he, hm⟩ := x_forR (enc := encS) (chk := fun _ => True) (tg := tTup 2 (tCons2 (tName 5) (tCons2 (tName 6) tNils))) (body := rungsBody) (P := fun r e M' => M' = M ∧ ∃ pre many b5 b6 b7 b8 b9, ps = pre ++ r ∧ e = envR ps first last many here b5 b6 b7 b8 b9 ∧ many + Pk.rg here last r = total)
    (by
      rintro q r e M' ⟨rfl, pre, many, b5, b6, b7, b8, b9, rfl, rfl, hm⟩
      obtain ⟨d7, d8, d9, h⟩ := rungs_round (first := first) (last := last) (many := many) (here := here) (M := M') hb asc (hp q (by simp)).1 (hp q (by simp)).2 b7 b8 b9
      refine ⟨trivial, _, rfl, _, _, h, rfl, pre ++ [q], _, _, _, _, _, _, by simp, rfl, ?_⟩
      rw [← hm, Pk.rg, Int.add_assoc]) (fun _ _ _ => trivial) ps (envR ps first last 0 here c5 c6 c7 c8 c9) M ⟨rfl, [], 0, c5, c6, c7, c8, c9, rfl, rfl, by rw [ht, Int.zero_add]⟩
  subst hM
  have hm : many = total := by rw [← hm, Pk.rg, Int.add_zero]
  subst hm
  exact ⟨b5, b6, b7, b8, b9, by rw [h1, he]⟩
theorem r_rungs {ps : List (Int × Int)} {first last here : Int} {M : Mem} (hb : ps.length < big) (asc : ps.Pairwise fun a b => a.1 < b.1) (hp : ∀ q ∈ ps, 0 < q.2 ∧ q.2 < 1073741824)
    (hu : p_Ladder_up [.d (lad ps), .d (.int first)] M = .ok (.d (.int here)) M) : p_Ladder_rungs [.d (lad ps), .d (.int first), .d (.int last)] M = .ok (.d (.int (Pk.rg here last ps))) M := by
  obtain ⟨b5, b6, b7, b8, b9, h⟩ := rungs_loop (first := first) (last := last) (here := here) (M := M) hb asc hp rfl none none none none none
  have hup : ∀ r, fMeth "Ladder" "up" p_Ladder_up (fVar 0) (fCons (fVar 1) fNil) (some (.d (lad ps)) :: some (.d (.int first)) :: r) M = .ok (.d (.int here)) M := fun r => by
    rw [meth_lad (ps := ps) (by decide +kernel) _ _ _ _ (by simp)]
    simp [hu]
  have hL := lad_insD M ps
  have hi := fun e0 e1 e2 e3 e4 e5 e6 e7 e8 e9 e10 => x_seqT (xs := ps) (enc := encS) (f := fAttr ["Ladder"] "steps" (fVar 0)) (e := [some (.d (lad ps)), e0, e1, e2, e3, e4, e5, e6, e7, e8, e9, e10]) (M := M) (M1 := M) (by simp [hL])
  refine (x_call rfl (v := .d (.int (Pk.rg here last ps))) (M' := M) ?_).trans (x_finish _ _ _ rfl)
  show sSeq _ (sSeq (sFor (iSeq (fAttr ["Ladder"] "steps" (fVar 0))) (tTup 2 (tCons2 (tName 5) (tCons2 (tName 6) tNils))) rungsBody) (sRet (fVar 3))) _ _ = _
  have hf : sFor (iSeq (fAttr ["Ladder"] "steps" (fVar 0))) (tTup 2 (tCons2 (tName 5) (tCons2 (tName 6) tNils))) rungsBody (envR ps first last 0 here none none none none none) M = .nx (envR ps first last (Pk.rg here last ps) here b5 b6 b7 b8 b9) M := by
    unfold sFor
    rw [hi]
    exact h
  have h0 : sPar 3 4 (fCons (fC (.int 0)) (fCons (fMeth "Ladder" "up" p_Ladder_up (fVar 0) (fCons (fVar 1) fNil)) fNil)) (env0 12 [.d (lad ps), .d (.int first), .d (.int last)]) M = .nx (envR ps first last 0 here none none none none none) M := by
    simp [env0, hup]
  rw [x_sSeq, h0]
  dsimp only
  rw [x_sSeq, hf]
  rfl
/-! ### the drawn steps -/
theorem chain_snoc : ∀ {r : List (Int × Int)} {q p l : Int × Int}, Pk.Chain q r → (q :: r).getLast? = some l → 0 < p.2 → l.1 < p.1 → (p.1 - l.1) % l.2 = 0 → Pk.Chain q (r ++ [p])
  | [], q, p, l, h, hl, h0, h1, h2 => by
    cases hl
    exact .cons h.pos h1 h2 (.nil h0)
  | x :: r, q, p, l, h, hl, h0, h1, h2 => by
    cases h with
    | cons a b c d => exact .cons a b c (chain_snoc d (by rw [List.getLast?_cons_cons] at hl; exact hl) h0 h1 h2)
/-- steps that were drawn so far, and where the next one begins -/
structure Drawn (acc : List (Int × Int)) (bg : Int) : Prop where
  ok : (acc = [] ∧ bg = 0) ∨ ∃ q r l, acc = q :: r ∧ q.1 = 0 ∧ Pk.Chain q r ∧ acc.getLast? = some l ∧ l.1 < bg ∧ (bg - l.1) % l.2 = 0
  st : ∀ q ∈ acc, 1 ≤ q.2 ∧ q.2 ≤ 4 ∧ 0 ≤ q.1 ∧ q.1 ≤ 16 * (acc.length - 1 : Int)
  bg0 : 0 ≤ bg ∧ bg ≤ 16 * (acc.length : Int)
theorem Drawn.more {acc : List (Int × Int)} {bg s t : Int} (h : Drawn acc bg) (h1 : 1 ≤ s) (h2 : s ≤ 4) (h3 : 1 ≤ t) (h4 : t ≤ 4) : Drawn (acc ++ [(bg, s)]) (bg + s * t) := by
  have hp : s ≤ s * t := by have := Int.mul_le_mul_of_nonneg_left h3 (by omega : 0 ≤ s); omega
  have hq : s * t ≤ 16 := by
    have a := Int.mul_le_mul_of_nonneg_left h4 (by omega : 0 ≤ s)
    omega
  obtain ⟨b1, b2⟩ := h.bg0
  refine ⟨.inr ?_, fun q hq => ?_, by omega, by simp; omega⟩
  · rcases h.ok with ⟨rfl, rfl⟩ | ⟨q, r, l, rfl, e1, e2, e3, e4, e5⟩
    · exact ⟨(0, s), [], (0, s), rfl, rfl, .nil (by show 0 < s; omega), rfl, by show 0 < 0 + s * t; omega, by show (0 + s * t - 0) % s = 0; simp⟩
    · refine ⟨q, r ++ [(bg, s)], (bg, s), rfl, e1, chain_snoc e2 e3 (by show 0 < s; omega) e4 e5, by rw [List.getLast?_append]; rfl, by show bg < bg + s * t; omega, ?_⟩
      show (bg + s * t - bg) % s = 0
      rw [show bg + s * t - bg = s * t by omega]
      simp
  · rcases List.mem_append.mp hq with hq | hq
    · obtain ⟨a, b, c, d⟩ := h.st q hq
      refine ⟨a, b, c, by simp; omega⟩
    · rw [List.mem_singleton.mp hq]
      refine ⟨h1, h2, b1, ?_⟩
      show bg ≤ _
      simp
      omega
@[simp] theorem x_fAppend (f g : EF) (e : En) (M : Mem) : fAppend f g e M = rbind (f e M) fun v M1 => if isLstO M1 v = true then rbind (g e M1) fun w M2 => opAppend v w M2 else .bad := rfl
@[simp] theorem x_isLstO (M : Mem) (k : Nat) : isLstO M (.obj k) = match M[k]? with
  | some (.lst _) => true
  | _ => false := rfl
@[simp] theorem x_opAppend (M : Mem) (k : Nat) (x : D) : opAppend (.obj k) (.d x) M = match M[k]? with
  | some (.lst l) => if l.length < big then .ok (.d .non) (M.set k (.lst (l ++ [x]))) else .bad
  | _ => .bad := rfl
noncomputable def stepsBody : SF := (sSeq (sSet 4 (fOp opAdd (fC (.int 1)) (fCall p__law_taken (fCons (fVar 0) (fCons (fC (.int 4)) fNil)))))
  (sSeq (sExpr (fAppend (fVar 1) (fTup (fCons (fVar 2) (fCons (fVar 4) fNil)))))
  (sSet 2 (fOp opAdd (fVar 2) (fOp opMul (fVar 4) (fOp opAdd (fC (.int 1)) (fCall p__law_taken (fCons (fVar 0) (fCons (fC (.int 4)) fNil)))))))))
theorem r_steps {ns : List Int} {b c d : Int} (hb : 0 ≤ b) : ∃ q0 r0 b' c' d', 0 ≤ b' ∧ q0.1 = 0 ∧ Pk.Chain q0 r0 ∧ (q0 :: r0).length ≤ 3 ∧ (∀ q ∈ q0 :: r0, 1 ≤ q.2 ∧ q.2 ≤ 4 ∧ 0 ≤ q.1 ∧ q.1 ≤ 32) ∧
    p__law_steps [.obj 0] [rowO ns b c d] = .ok (.d (.tup ((q0 :: r0).map encS))) [rowO ns b' c' d'] := by
  obtain ⟨n, b1, c1, d1, n0, n1, hb1, t⟩ := taken_ok (M := [rowO ns b c d, .lst []]) (k := 0) (m := 3) rfl hb (by decide) (by decide)
  have t : p__law_taken [.obj 0, .d (.int 3)] [rowO ns b c d, .lst []] = .ok (.d (.int n)) [rowO ns b1 c1 d1, .lst []] := t
  obtain ⟨k, rfl⟩ : ∃ k : Nat, n = k := ⟨n.toNat, by omega⟩
  obtain ⟨e2, M2, h1, acc, bg, b2, c2, d2, a3, a4, hb2, hl, he, hM, hD⟩ := x_forR (enc := fun i : Nat => D.int (0 + i)) (chk := fun _ => True) (tg := tName 3) (body := stepsBody) (P := fun r e M => ∃ acc bg b c d a3 a4, 0 ≤ b ∧ acc.length + r.length = k + 1 ∧ e = [some (.obj 0), some (.obj 1), some (.d (.int bg)), a3, a4] ∧ M = [rowO ns b c d, .lst (acc.map encS)] ∧ Drawn acc bg)
    (by
      rintro i r e M ⟨acc, bg, b, c, d, a3, a4, hb, hl, rfl, rfl, hD⟩
      obtain ⟨s, b3, c3, d3, s0, s1, hb3, t3⟩ := taken_ok (M := [rowO ns b c d, .lst (acc.map encS)]) (k := 0) (m := 4) rfl hb (by decide) (by decide)
      have t3 : p__law_taken [.obj 0, .d (.int 4)] [rowO ns b c d, .lst (acc.map encS)] = .ok (.d (.int s)) [rowO ns b3 c3 d3, .lst (acc.map encS)] := t3
      obtain ⟨u, b4, c4, d4, u0, u1, hb4, t4⟩ := taken_ok (M := [rowO ns b3 c3 d3, .lst ((acc ++ [(bg, 1 + s)]).map encS)]) (k := 0) (m := 4) rfl hb3 (by decide) (by decide)
      have t4 : p__law_taken [.obj 0, .d (.int 4)] [rowO ns b3 c3 d3, .lst ((acc ++ [(bg, 1 + s)]).map encS)] = .ok (.d (.int u)) [rowO ns b4 c4 d4, .lst ((acc ++ [(bg, 1 + s)]).map encS)] := t4
      rw [List.map_append] at t4
      have t4 : p__law_taken [.obj 0, .d (.int 4)] [rowO ns b3 c3 d3, .lst (acc.map encS ++ [.tup [.int bg, .int (1 + s)]])] = .ok (.d (.int u)) [rowO ns b4 c4 d4, .lst (acc.map encS ++ [.tup [.int bg, .int (1 + s)]])] := t4
      have hacc : acc.length < 16777216 := by omega
      have hm : CMul (1 + s) (1 + u) := cmul_r (by omega)
      refine ⟨trivial, _, rfl, [some (.obj 0), some (.obj 1), some (.d (.int (bg + (1 + s) * (1 + u)))), some (.d (.int (0 + i))), some (.d (.int (1 + s)))], [rowO ns b4 c4 d4, .lst (acc.map encS ++ [.tup [.int bg, .int (1 + s)]])], ?_, acc ++ [(bg, 1 + s)], _, b4, c4, d4, _, _, hb4, ?_, rfl, ?_, hD.more (s := 1 + s) (t := 1 + u) (by omega) (by omega) (by omega) (by omega)⟩
      · simp [stepsBody, t3, t4, hacc, hm]
      · simp at hl ⊢; omega
      · rw [List.map_append]; rfl) (fun _ _ _ => trivial) (List.range (k + 1)) [some (.obj 0), some (.obj 1), some (.d (.int 0)), none, none] [rowO ns b1 c1 d1, .lst []]
    ⟨[], 0, b1, c1, d1, none, none, hb1, by simp, rfl, rfl, ⟨.inl ⟨rfl, rfl⟩, fun q hq => (nomatch hq), by decide⟩⟩
  subst hM; subst he
  have hlen : acc.length = k + 1 := by simpa using hl
  rcases hD.ok with ⟨rfl, _⟩ | ⟨q0, r0, l, rfl, e1, e2, _⟩
  · simp at hlen
  refine ⟨q0, r0, b2, c2, d2, hb2, e1, e2, by omega, fun q hq => ?_, (x_call rfl (v := .d (.tup ((q0 :: r0).map encS))) (M' := [rowO ns b2 c2 d2] ++ [.lst ((q0 :: r0).map encS)]) ?_).trans (x_finishA _ rfl rfl)⟩
  · obtain ⟨a, b, c, d⟩ := hD.st q hq
    exact ⟨a, b, c, by omega⟩
  · have hi := x_rng1 (fs := fCons (fOp opAdd (fC (.int 1)) (fCall p__law_taken (fCons (fVar 0) (fCons (fC (.int 3)) fNil)))) fNil) (e := [some (.obj 0), some (.obj 1), some (.d (.int 0)), none, none]) (M := [rowO ns b c d, .lst []]) (M1 := [rowO ns b1 c1 d1, .lst []]) (j := 1 + (k : Int)) (by simp [t]) (by unfold smallI; omega)
    have hk : (1 + (k : Int)).toNat = k + 1 := by omega
    rw [hk] at hi
    have h0 : b__law_steps (env0 5 [.obj 0]) [rowO ns b c d] = sSeq (sFor (iRng1' (fCons (fOp opAdd (fC (.int 1)) (fCall p__law_taken (fCons (fVar 0) (fCons (fC (.int 3)) fNil)))) fNil)) (tName 3) stepsBody) (sRet (fun e M => rbind ((fCons (fVar 1) fNil) e M) bTup)) [some (.obj 0), some (.obj 1), some (.d (.int 0)), none, none] [rowO ns b c d, .lst []] := rfl
    rw [h0, x_sSeq]
    unfold sFor
    rw [hi]
    dsimp only
    have h1 : forF (ivRng 0 (k + 1)).chk (tName 3) stepsBody (ivRng 0 (k + 1)).l [some (.obj 0), some (.obj 1), some (.d (.int 0)), none, none] [rowO ns b1 c1 d1, .lst []] = _ := h1
    rw [h1]
    rfl
/-! ### refused steps -/
section
variable {x : D} {M0 M : Mem}
theorem x_fMake (fr : Bool) (cn : Str) (φ : List Val → Mem → R Val) (fs : En → Mem → R (List Val)) (e : En) (M : Mem) : fMake fr cn φ fs e M = rbind (fs e M) (mkIns fr cn φ) := rfl
theorem r_init_e {er : Exn} (hw : p_want_row [.d x, .d (.glo "is_step"), .d (.int 12)] (M0 ++ [.ins "Ladder" []]) = .err er (M0 ++ [.ins "Ladder" []])) : mkIns true "Ladder" p_Ladder_init [.d x] M0 = .err er M0 := by
  have hb : b_Ladder_init (env0 5 [.obj M0.length, .d x]) (M0 ++ [.ins "Ladder" []]) = .er er [some (.obj M0.length), some (.d x), none, none, none] (M0 ++ [.ins "Ladder" []]) := by
    simp [b_Ladder_init, env0, x_sAttr, hw]
  have hc : p_Ladder_init [.obj M0.length, .d x] (M0 ++ [.ins "Ladder" []]) = .err er (M0 ++ [.ins "Ladder" []]) := (x_callX rfl hb).trans (x_finishX _ _ _ rfl)
  unfold mkIns
  rw [hc]
  dsimp only
  unfold mkX
  rw [if_pos (x_okcut rfl fun k o e => .inl e), List.take_left]
theorem r_init_0 (hw : p_want_row [.d x, .d (.glo "is_step"), .d (.int 12)] (M0 ++ [.ins "Ladder" []]) = .ok (.d (.tup [])) (M0 ++ [.ins "Ladder" []])) : mkIns true "Ladder" p_Ladder_init [.d x] M0 = .err ⟨"BadItem", [("index", .non)]⟩ M0 := by
  have hp := put_lad M0 []
  have hL := lad_ins M0 []
  rw [List.map_nil] at hp hL
  have hb : b_Ladder_init (env0 5 [.obj M0.length, .d x]) (M0 ++ [.ins "Ladder" []]) = .er ⟨"BadItem", [("index", .non)]⟩ [some (.obj M0.length), some (.d x), none, none, none] (ladM M0 []) := by
    simp [b_Ladder_init, env0, x_sAttr, hw, hp, hL]
  have hc : p_Ladder_init [.obj M0.length, .d x] (M0 ++ [.ins "Ladder" []]) = .err ⟨"BadItem", [("index", .non)]⟩ (ladM M0 []) := (x_callX rfl hb).trans (x_finishX _ _ _ (by unfold ladM; simp))
  unfold mkIns
  rw [hc]
  dsimp only
  unfold mkX
  rw [if_pos (ladM_cut M0 []), ladM_take]
theorem raised_item {j : D} (h : mkIns true "Ladder" p_Ladder_init [.d x] M = .err ⟨"BadItem", [("index", j)]⟩ M) : p__law_raised [.d x] M = .ok (.d (.tup [.str "item", j])) M := by
  have h1 : sExpr (fMake true "Ladder" p_Ladder_init (fCons (fVar 0) fNil)) [some (.d x), none] M = .er ⟨"BadItem", [("index", j)]⟩ [some (.d x), none] M := by
    rw [x_sExpr, x_fMake]
    simp [h]
  refine (x_call rfl (v := .d (.tup [.str "item", j])) (M' := M) ?_).trans (x_finish _ _ _ rfl)
  show sSeq (sTry _ _) _ [some (.d x), none] M = _
  rw [x_sSeq]
  unfold sTry
  rw [h1]
  rfl
theorem raised_many {j : D} (h : mkIns true "Ladder" p_Ladder_init [.d x] M = .err ⟨"TooMany", [("limit", j)]⟩ M) : p__law_raised [.d x] M = .ok (.d (.tup [.str "many", j])) M := by
  have h1 : sExpr (fMake true "Ladder" p_Ladder_init (fCons (fVar 0) fNil)) [some (.d x), none] M = .er ⟨"TooMany", [("limit", j)]⟩ [some (.d x), none] M := by
    rw [x_sExpr, x_fMake]
    simp [h]
  refine (x_call rfl (v := .d (.tup [.str "many", j])) (M' := M) ?_).trans (x_finish _ _ _ rfl)
  show sSeq (sTry _ _) _ [some (.d x), none] M = _
  rw [x_sSeq]
  unfold sTry
  rw [h1]
  rfl
end
end Wk00
set_option Elab.async false
set_option linter.all false
/-! Pk01: more of ladders. -/
namespace Pk
section
variable {q0 : St} {r : List St} {last x : Int}
theorem bids_last (hc : Chain q0 r) : ∀ {n : Nat} {h : Int}, q0.1 ≤ h → IsBid (q0 :: r) h → h ≤ last → (last - h).toNat < n → ∀ {q : St}, at_ (q0 :: r) last = some q →
    (bidsF (q0 :: r) last n h).getLast? = some (downB q last)
  | 0, h, _, _, _, hf, _, _ => by omega
  | n + 1, h, h0, hi, hx, hf, q, e => by
    obtain ⟨qh, o, eh, s, hd, hst, hn⟩ := bid_seg hc h0 hi
    have hpos := s.pos
    obtain ⟨q', e', hd'⟩ := next_bid s
    unfold bidsF
    rw [if_neg (by omega), hst, ← hn]
    by_cases hb : last < nextB qh h
    · obtain ⟨a, b, c⟩ := block s (y := last) (by rw [hd]; exact hx) hb
      rw [e] at a
      cases a
      rw [b, hd]
      cases n with
      | zero => rfl
      | succ n =>
        unfold bidsF
        rw [if_pos hb]
        rfl
    · have hb' : nextB qh h ≤ last := Int.not_lt.mp hb
      have ih := bids_last hc (n := n) (h := nextB qh h) (by rw [hn]; omega) ⟨q', e', hd'⟩ hb' (by rw [hn]; omega) e
      rw [List.getLast?_cons, ih]
      rfl
def upB (q : St) (x : Int) : Int := if downB q x = x then x else nextB q x
theorem up_bid (hc : Chain q0 r) (hx : q0.1 ≤ x) {q : St} (e : at_ (q0 :: r) x = some q) : IsBid (q0 :: r) (upB q x) ∧ (∀ b, q0.1 ≤ b → IsBid (q0 :: r) b → (x ≤ b ↔ upB q x ≤ b)) ∧ q0.1 ≤ upB q x := by
  obtain ⟨q', o, e', s⟩ := seg_of hc hx
  rw [e] at e'
  cases e'
  have hl := lt_next (x := x) s.pos
  have hd := down_le (x := x) s.pos
  unfold upB
  by_cases h : downB q x = x
  · rw [if_pos h]
    exact ⟨⟨q, e, h⟩, fun b _ _ => Iff.rfl, hx⟩
  · rw [if_neg h]
    obtain ⟨q', e', hd'⟩ := next_bid s
    refine ⟨⟨q', e', hd'⟩, fun b hb ⟨qb, eb, db⟩ => ⟨fun hxb => ?_, fun z => by omega⟩, by omega⟩
    rcases Int.lt_or_le b (nextB q x) with z | z
    · obtain ⟨a, b', c⟩ := block s (y := b) (by omega) z
      rw [eb] at a
      cases a
      omega
    · exact z
theorem bid0 (hc : Chain q0 r) (h0 : q0.1 = 0) : IsBid (q0 :: r) 0 := by
  refine ⟨q0, at_here hc (by omega) (fun p hp => ?_), ?_⟩
  · cases r with
    | nil => cases hp
    | cons p' r' =>
      cases hp
      have := hc.above p List.mem_cons_self
      omega
  · unfold downB
    rw [h0]
    simp
/-- rungs are counted bids -/
theorem rungs_law (hc : Chain q0 r) (h0 : q0.1 = 0) {L first : Int} {n : Nat} (hL : last ≤ L) (hn : L < n) (hf : 0 ≤ first) {q : St} (e : at_ (q0 :: r) first = some q) :
    rg (upB q first) last (q0 :: r) = (((bidsF (q0 :: r) L n 0).filter fun b => decide (first ≤ b ∧ b ≤ last)).length : Int) := by
  obtain ⟨ua, ub, _⟩ := up_bid hc (by omega) e
  have key := count_bids (first := first) (last := last) (here := upB q first) (L := L) hc hL ua (n := n) (h := 0) (q := q0) (r := r) hc (Int.le_refl _) (fun _ _ => rfl) (by omega) (fun p hp => by
    cases r with
    | nil => cases hp
    | cons p' r' =>
      cases hp
      have := hc.above p List.mem_cons_self
      omega) (by rw [h0]; simp) (by omega) (fun b hb hi => by
    exact ub b (by omega) hi)
  rw [key, rg, h0]
theorem asc (hc : Chain q0 r) : (q0 :: r).Pairwise fun a b => a.1 < b.1 := by
  induction hc with
  | nil _ => simp
  | cons a b c d ih => exact List.pairwise_cons.mpr ⟨fun p hp => (Chain.cons a b c d).above p hp, ih⟩
theorem down_iff {q : St} (h : 0 < q.2) : (x - q.1) % q.2 = 0 ↔ downB q x = x := by
  have := Int.mul_ediv_add_emod (x - q.1) q.2
  unfold downB
  rw [Int.mul_comm]
  constructor <;> intro z <;> omega
/-- a bid far above begins one step more -/
theorem chain_more (hc : Chain q0 r) {l p : St} (hl : (q0 :: r).getLast? = some l) (hx : l.1 ≤ x) (h0 : 0 < p.2) (hp : p.1 = downB l x) (h1 : l.1 < p.1) : (p.1 - l.1) % l.2 = 0 := by
  rw [hp]
  unfold downB
  rw [show l.1 + (x - l.1) / l.2 * l.2 - l.1 = (x - l.1) / l.2 * l.2 by omega]
  simp
end
end Pk
set_option Elab.async false
set_option linter.all false
set_option maxRecDepth 100000
set_option maxHeartbeats 1000000
/-! Ok00: the law's parts. -/
namespace Wk00
open PySem PySem.Spec PyProof.Rows L2 Vl Vx
theorem wrong_none1 : ∀ {r : List (Int × Int)} {q : Int × Int} {i : Nat}, Pk.Chain q r → wrongAt (some q) i r = none
  | [], q, i, _ => rfl
  | p :: r, q, i, h => by
    cases h with
    | cons a b c d =>
      rw [wrongAt, if_neg (by omega)]
      exact wrong_none1 d
theorem wrong_none {q : Int × Int} {r : List (Int × Int)} (h0 : q.1 = 0) (h : Pk.Chain q r) : wrongAt none 0 (q :: r) = none := by
  rw [wrongAt, if_pos h0]
  exact wrong_none1 h
/-- a row that stands for steps: pairs as tuples or lists -/
def Asi (x y : D) : Prop := ∃ l, x = .tup l ∧ (y = .tup l ∨ y = .lst l)
theorem asi_self : ∀ ps : List (Int × Int), All2 Asi (ps.map encS) (ps.map encS)
  | [] => .nil
  | p :: ps => .cons ⟨_, rfl, .inl rfl⟩ (asi_self ps)
theorem asi_fz {xs ys : List D} (h : All2 Asi xs ys) : ys.map fzI = xs := by
  induction h with
  | nil => rfl
  | cons r _ ih =>
    obtain ⟨l, rfl, rfl | rfl⟩ := r <;> (rw [List.map_cons, ih])
theorem asi_ok {ps : List (Int × Int)} {ys : List D} (h : All2 Asi (ps.map encS) ys) : ∀ y ∈ ys, itemOk y = true := by
  generalize hx : ps.map encS = xs at h
  induction h generalizing ps with
  | nil => intro y hy; cases hy
  | cons r _ ih =>
    cases ps with
    | nil => cases hx
    | cons p ps =>
      cases hx
      intro y hy
      cases hy with
      | head =>
        obtain ⟨l, e, e2⟩ := r
        cases e
        rcases e2 with rfl | rfl <;> rfl
      | tail _ hy => exact ih rfl y hy
def fits (q : Int × Int) : Prop := 0 ≤ q.1 ∧ q.1 ≤ 99999 ∧ 1 ≤ q.2 ∧ q.2 ≤ 99999
theorem asi_bad {ps : List (Int × Int)} {ys : List D} (h : All2 Asi (ps.map encS) ys) (hp : ∀ q ∈ ps, fits q) : ∀ i (zs : List D), firstBad i (ys ++ zs) = firstBad (i + ps.length) zs := by
  generalize hx : ps.map encS = xs at h
  induction h generalizing ps with
  | nil =>
    cases ps with
    | cons _ _ => cases hx
    | nil => intro i zs; rfl
  | cons r _ ih =>
    cases ps with
    | nil => cases hx
    | cons p ps =>
      cases hx
      intro i zs
      obtain ⟨l, e, e2⟩ := r
      obtain ⟨a, b, c, d⟩ := hp p List.mem_cons_self
      have hs : stepB (D.tup [.int p.1, .int p.2]) = true ∧ stepB (D.lst [.int p.1, .int p.2]) = true := by
        simp [stepB, stepL, isNum, a, b, c, d]
      cases e
      have e3 := ih (ps := ps) (fun q hq => hp q (List.mem_cons_of_mem _ hq)) rfl (i + 1) zs
      rw [List.length_cons, show i + (ps.length + 1) = i + 1 + ps.length by omega, ← e3]
      rcases e2 with rfl | rfl
      · rw [List.cons_append, firstBad, if_pos hs.1]
      · rw [List.cons_append, firstBad, if_pos hs.2]
theorem r_ladder {x : D} {ys : List D} {q : Int × Int} {r : List (Int × Int)} {M : Mem} (hx : x = .tup ys ∨ x = .lst ys) (h : All2 Asi ((q :: r).map encS) ys) (h0 : q.1 = 0) (hc : Pk.Chain q r) (hp : ∀ p ∈ q :: r, fits p) (hl : (q :: r).length ≤ 12) :
    mkIns true "Ladder" p_Ladder_init [.d x] M = .ok (.d (lad (q :: r))) M := by
  have hlen : ys.length = (q :: r).length := by rw [h.len, List.length_map]
  refine r_init (ps := q :: r) ?_ (fun p hp' => by have := (hp p hp').2.2.1; omega) (by simp) (wrong_none h0 hc)
  have hf : firstBad 0 ys = none := by
    have := asi_bad h hp 0 []
    rw [List.append_nil] at this
    exact this
  have := r_want (x := x) hx (asi_ok h) (M ++ [.ins "Ladder" []])
  rw [hf] at this
  dsimp only at this
  rw [if_neg (by omega), asi_fz h] at this
  exact this
/-! ### == of ladders -/
theorem eqD_encS (a b : Int × Int) : eqD (encS a) (encS b) = decide (a = b) := by
  obtain ⟨a1, a2⟩ := a
  obtain ⟨b1, b2⟩ := b
  by_cases h1 : a1 = b1 <;> by_cases h2 : a2 = b2 <;> simp [encS, h1, h2]
theorem sh_steps (ps : List (Int × Int)) : Sh 2 (.tup (ps.map encS)) := (sh_tup _).mpr fun x hx => by
  obtain ⟨p, _, rfl⟩ := List.mem_map.mp hx
  exact (sh_tup _).mpr fun y hy => by
    simp only [List.mem_cons, List.not_mem_nil, or_false] at hy
    rcases hy with rfl | rfl <;> exact sh_int _
theorem ct_lad : ct_Ladder "Ladder" = some true := by rfl
theorem r_eq_lad (ps qs : List (Int × Int)) (M : Mem) : p_Ladder_eq [.d (lad ps), .d (lad qs)] M = .ok (.d (.bl (decide (ps = qs)))) M := by
  have h1 := lad_insD M ps
  have h2 := lad_insD M qs
  have h3 : isiR (fun _ => false) ct_Ladder M (.d (lad qs)) = .ok (.d (.bl true)) M := by
    unfold lad
    rw [x_isi_ins, ct_lad]
  have h4 : opEq (.d (.tup (ps.map encS))) (.d (.tup (qs.map encS))) M = .ok (.d (.bl (decide (ps = qs)))) M := by
    rw [x_eq (sh_steps ps) (sh_steps qs), eqD_tt, eqL_map eqD_encS]
  refine (x_call rfl (v := .d (.bl (decide (ps = qs)))) (M' := M) ?_).trans (x_finish _ _ _ rfl)
  simp [b_Ladder_eq, env0, h1, h2, h3, h4]
theorem r_eq_no {l : List D} (ps : List (Int × Int)) (M : Mem) : p_Ladder_eq [.d (lad ps), .d (.tup l)] M = .ok (.d (.bl false)) M := by
  refine (x_call rfl (v := .d (.bl false)) (M' := M) ?_).trans (x_finish _ _ _ rfl)
  simp [b_Ladder_eq, env0]
theorem own_lad (neg : Bool) (ps qs : List (Int × Int)) (M : Mem) : opOwn neg "Ladder" p_Ladder_eq (.d (lad ps)) (.d (lad qs)) M = .ok (.d (.bl (if neg = true then !decide (ps = qs) else decide (ps = qs)))) M := by
  unfold opOwn
  rw [lad_insD]
  dsimp only
  have : tyOf M (.d (lad qs)) = some (.c "Ladder") := rfl
  rw [this]
  dsimp only
  rw [if_pos ⟨rfl, by show (Str.ofString "Ladder" == Str.ofString "Ladder") = true; exact beq_self_eq_true _⟩, r_eq_lad]
theorem own_tup (ps : List (Int × Int)) (l : List D) (M : Mem) : opOwn false "Ladder" p_Ladder_eq (.d (lad ps)) (.d (.tup l)) M = .ok (.d (.bl false)) M := by
  unfold opOwn
  rw [lad_insD]
  dsimp only
  have : tyOf M (.d (.tup l)) = some (.b "tuple") := rfl
  rw [this]
  dsimp only
  rw [if_pos ⟨rfl, rfl⟩, r_eq_no]
  rfl
/-! ### the ladder of the law -/
abbrev inRow (ns : List Int) (M : Mem) : Prop := ∃ b c d, 0 ≤ b ∧ M = [rowO ns b c d]
theorem r_mixRow {ns : List Int} {M : Mem} (hM : inRow ns M) {v : D} {l : List D} (hv : v = .tup l ∨ v = .lst l) : ∃ w M', inRow ns M' ∧ (w = .tup l ∨ w = .lst l) ∧ p__law_mixed [.obj 0, .d v] M = .ok (.d w) M' := by
  obtain ⟨b, c, d, hb, rfl⟩ := hM
  obtain ⟨w, b', c', d', hw, hb', e⟩ := r_mixed (k := 0) (M := [rowO ns b c d]) hv rfl hb
  exact ⟨w, _, ⟨b', c', d', hb', rfl⟩, hw, e⟩
theorem r_takenRow {ns : List Int} {M : Mem} (hM : inRow ns M) {m : Int} (h0 : 0 < m) (h1 : m < 1073741824) : ∃ r M', inRow ns M' ∧ 0 ≤ r ∧ r < m ∧ p__law_taken [.obj 0, .d (.int m)] M = .ok (.d (.int r)) M' := by
  obtain ⟨b, c, d, hb, rfl⟩ := hM
  obtain ⟨r, b', c', d', r0, r1, hb', e⟩ := taken_ok (k := 0) (M := [rowO ns b c d]) rfl hb h0 h1
  exact ⟨r, _, ⟨b', c', d', hb', rfl⟩, r0, r1, e⟩
theorem r_pickRow {ns : List Int} {M : Mem} (hM : inRow ns M) {l : List D} (h0 : 0 < l.length) (h1 : l.length < 1073741824) : ∃ x M', inRow ns M' ∧ x ∈ l ∧ p__law_pick [.obj 0, .d (.lst l)] M = .ok (.d x) M' := by
  obtain ⟨b, c, d, hb, rfl⟩ := hM
  obtain ⟨x, b', c', d', hx, hb', e⟩ := pick_ok (k := 0) (M := [rowO ns b c d]) rfl hb h0 h1
  exact ⟨x, _, ⟨b', c', d', hb', rfl⟩, hx, e⟩
abbrev envL (ns : List Int) (ps : List (Int × Int)) (r : En) : En := some (.d (.scr ns)) :: some (.obj 0) :: some (.d (.tup (ps.map encS))) :: r
theorem r_made {ns : List Int} {q : Int × Int} {r : List (Int × Int)} {M : Mem} (hM : inRow ns M) (h0 : q.1 = 0) (hc : Pk.Chain q r) (hp : ∀ p ∈ q :: r, fits p) (hl : (q :: r).length ≤ 12) (a3 a4 a5 a6 a7 a8 a10 a11 a12 a13 a14 a15 a16 : Option Val) :
    ∃ M', inRow ns M' ∧ fMake true "Ladder" p_Ladder_init (fCons (fCall p__law_mixed (fCons (fVar 1) (fCons (fLc (iSeq (fVar 2)) (tName 9) bYes (fCall p__law_mixed (fCons (fVar 1) (fCons (fVar 9) fNil))) [9]) fNil))) fNil) (envL ns (q :: r) [a3, a4, a5, a6, a7, a8, none, a10, a11, a12, a13, a14, a15, a16]) M = .ok (.d (lad (q :: r))) M' := by
  have hi := x_seqT (xs := q :: r) (enc := encS) (f := fVar 2) (e := envL ns (q :: r) [a3, a4, a5, a6, a7, a8, none, a10, a11, a12, a13, a14, a15, a16]) (M := M) (M1 := M) (by simp)
  obtain ⟨ys, M2, e1, hM2, ha⟩ := x_fLcS (t := tName 9) (ts := bYes) (el := fCall p__law_mixed (fCons (fVar 1) (fCons (fVar 9) fNil))) (vs := [9]) (P := inRow ns) (Rl := Asi) hi (by
    show ((q :: r).map encS).length ≤ 16777216
    rw [List.length_map]; omega) (fun _ _ => trivial) (fun x hx M hM => by
    obtain ⟨p, _, rfl⟩ := List.mem_map.mp hx
    obtain ⟨w, M', h1, h2, h3⟩ := r_mixRow hM (v := encS p) (l := [.int p.1, .int p.2]) (.inl rfl)
    exact ⟨_, rfl, rfl, w, M', by simp [h3], h1, _, rfl, h2⟩) hM
  have ha : All2 Asi ((q :: r).map encS) ys := ha
  obtain ⟨w, M3, hM3, hw, e2⟩ := r_mixRow hM2 (v := .lst ys) (l := ys) (.inr rfl)
  refine ⟨M3, hM3, ?_⟩
  simp [x_fMake, e1, e2, r_ladder hw ha h0 hc hp hl]
end Wk00
set_option Elab.async false
set_option linter.all false
set_option maxRecDepth 100000
set_option maxHeartbeats 1000000
/-! Oj00: the law's loops, round by round; the refused rows. -/
namespace Wk00
open PySem PySem.Spec PyProof.Rows L2 Vl Vx
theorem atI_head {α : Type} {l : List α} {x : α} (h : l.head? = some x) : atI l 0 = some x := by
  cases l with
  | nil => cases h
  | cons y r =>
    cases h
    unfold atI ixN
    rw [if_pos (by decide), if_pos (by rw [List.length_cons]; omega)]
    rfl
theorem alike {d : D} (M : Mem) (h : Al 3 d) : p__law_alike 4 [.d d, .d d] M = .ok (.d (.bl true)) M := alike_all (p := p__law_alike) (fun _ => rfl) M 3 d h
theorem r_truth (b : Bool) (M : Mem) : p__law_truth [.d (.bl b), .d (.bl b)] M = .ok (.d (.bl true)) M := by
  refine (x_call rfl (v := .d (.bl true)) (M' := M) ?_).trans (x_finish _ _ _ rfl)
  simp [b__law_truth, env0, isB]
/-- what is known of the drawn steps -/
structure Stp3 (q0 : Int × Int) (r0 : List (Int × Int)) : Prop where
  zero : q0.1 = 0
  ch : Pk.Chain q0 r0
  len : (q0 :: r0).length ≤ 3
  st : ∀ q ∈ q0 :: r0, 1 ≤ q.2 ∧ q.2 ≤ 4 ∧ 0 ≤ q.1 ∧ q.1 ≤ 32
abbrev B90 (ps : List (Int × Int)) : List Int := Pk.bidsF ps 90 91 0
section
variable {q0 : Int × Int} {r0 : List (Int × Int)}
theorem Stp3.fit (z : Stp3 q0 r0) : ∀ p ∈ q0 :: r0, fits p := fun p hp => by
  obtain ⟨a, b, c, d⟩ := z.st p hp
  exact ⟨c, by omega, a, by omega⟩
theorem Stp3.big (z : Stp3 q0 r0) : (q0 :: r0).length ≤ big := Nat.le_trans z.len (by decide)
theorem Stp3.at (z : Stp3 q0 r0) {x : Int} (hx : 0 ≤ x) : ∃ q o, Pk.at_ (q0 :: r0) x = some q ∧ Pk.Seg (q0 :: r0) x q o ∧ q.2 ≤ 4 ∧ q ∈ q0 :: r0 := by
  obtain ⟨q, o, e, s⟩ := Pk.seg_of z.ch (x := x) (by rw [z.zero]; exact hx)
  have hq : q ∈ (q0 :: r0).filter fun z => decide (z.1 ≤ x) := List.mem_of_getLast? e
  have hq := (List.mem_filter.mp hq).1
  exact ⟨q, o, e, s, (z.st q hq).2.1, hq⟩
theorem Stp3.round (z : Stp3 q0 r0) {x : Int} (hx : 0 ≤ x) (hx2 : x ≤ 80) {q : Int × Int} (e : Pk.at_ (q0 :: r0) x = some q) :
    ((B90 (q0 :: r0)).filter fun b => decide (b ≤ x)).getLast? = some (Pk.downB q x) ∧ ((B90 (q0 :: r0)).filter fun b => decide (x < b)).head? = some (Pk.nextB q x) ∧
    ((B90 (q0 :: r0)).filter fun b => decide (x ≤ b)).head? = some (Pk.upB q x) ∧ (x ∈ B90 (q0 :: r0) ↔ Pk.downB q x = x) := by
  obtain ⟨q', o, e', s, h4, _⟩ := z.at hx
  rw [e] at e'
  cases e'
  have h1 := Pk.down_le (x := x) s.pos
  exact Pk.bids_round z.ch (by rw [z.zero]; omega) (Pk.bid0 z.ch z.zero) hx (by omega) e (by rw [Pk.nextB_eq]; omega)
abbrev envM (ns : List Int) (ps : List (Int × Int)) (a5 a6 a7 a8 a9 a10 a11 a12 a13 : Option Val) : En :=
  envL ns ps [some (.d (lad ps)), some (.d (.lst ((B90 ps).map D.int))), a5, a6, a7, a8, a9, a10, a11, a12, a13, none, none, none]
section
variable {ns : List Int} {M : Mem}
theorem B90_len : (B90 (q0 :: r0)).length ≤ 91 := by
  have key : ∀ n h, (Pk.bidsF (q0 :: r0) 90 n h).length ≤ n := by
    intro n
    induction n with
    | zero => intro h; exact Nat.le_refl _
    | succ n ih =>
      intro h
      unfold Pk.bidsF
      split
      · exact Nat.zero_le _
      · rw [List.length_cons]
        exact Nat.succ_le_succ (ih _)
  exact key 91 0
/-- the bids that pass a test -/
theorem lcB {ts : BF} (p : Int → Bool) (a5 a6 a7 a8 a9 a10 a11 a12 a13 : Option Val) (h : ∀ b : Int, ts (envL ns (q0 :: r0) [some (.d (lad (q0 :: r0))), some (.d (.lst ((B90 (q0 :: r0)).map D.int))), a5, a6, a7, a8, a9, a10, a11, a12, a13, none, none, some (.d (.int b))]) M = .ok (p b) M) :
    fLc (iSeq (fVar 4)) (tName 16) ts (fVar 16) [16] (envM ns (q0 :: r0) a5 a6 a7 a8 a9 a10 a11 a12 a13) M = .ok (.d (.lst (((B90 (q0 :: r0)).filter p).map D.int))) M := by
  have hi := x_seqL (xs := B90 (q0 :: r0)) (enc := D.int) (f := fVar 4) (e := envM ns (q0 :: r0) a5 a6 a7 a8 a9 a10 a11 a12 a13) (M := M) (M1 := M) (by simp)
  exact x_lcT hi rfl trivial (Nat.le_trans B90_len (by decide)) p D.int fun b _ => ⟨_, rfl, h b, fun _ => rfl⟩
theorem r_bids90 (z : Stp3 q0 r0) : p__law_bids [.d (.tup ((q0 :: r0).map encS)), .d (.int 90)] M = .ok (.d (.lst ((B90 (q0 :: r0)).map D.int))) M :=
  r_bidsI z.big z.ch z.zero (by unfold smallI; decide) (m := 91) rfl (by decide)

noncomputable def amountBody : SF := (sSeq (sSet 12 (fTup (fCons (fOp opIx (fLc (iSeq (fVar 4)) (tName 16) (asB (fOp opLe (fVar 16) (fVar 5))) (fVar 16) [16]) (fNeg (fC (.int 1)))) (fCons (fOp opIx (fLc (iSeq (fVar 4)) (tName 16) (asB (fOp opGe (fVar 16) (fVar 5))) (fVar 16) [16]) (fC (.int 0))) (fCons (fOp opIx (fLc (iSeq (fVar 4)) (tName 16) (asB (fOp opGt (fVar 16) (fVar 5))) (fVar 16) [16]) (fC (.int 0))) fNil)))))
  (sSeq (sIf (bNot (asT (fCall (p__law_alike 4) (fCons (fTup (fCons (fMeth "Ladder" "down" p_Ladder_down (fVar 3) (fCons (fVar 5) fNil)) (fCons (fMeth "Ladder" "up" p_Ladder_up (fVar 3) (fCons (fVar 5) fNil)) (fCons (fMeth "Ladder" "next_bid" p_Ladder_next_bid (fVar 3) (fCons (fVar 5) fNil)) fNil)))) (fCons (fVar 12) fNil))))) (sRet (fC (.bl false))) sNil)
  (sIf (bOr (bNot (asT (fCall p__law_truth (fCons (fMeth "Ladder" "is_bid" p_Ladder_is_bid (fVar 3) (fCons (fVar 5) fNil)) (fCons (fOp (opIn false) (fVar 5) (fVar 4)) fNil))))) (bNot (asT (fCall (p__law_alike 4) (fCons (fMeth "Ladder" "step_at" p_Ladder_step_at (fVar 3) (fCons (fVar 5) fNil)) (fCons (fOp opIx (fLc (iSeq (fVar 2)) (tName 9) (asB (fOp opLe (fOp opIx (fVar 9) (fC (.int 0))) (fVar 5))) (fVar 9) [9]) (fNeg (fC (.int 1)))) fNil)))))) (sRet (fC (.bl false))) sNil)))
theorem meth1 {m : Str} (hm : m ≠ "steps") {φ : List Val → Mem → R Val} {ps : List (Int × Int)} {x : Int} {w : D} (h : φ [.d (lad ps), .d (.int x)] M = .ok (.d w) M) {e : En} (h3 : fVar 3 e M = .ok (.d (lad ps)) M) (h5 : fVar 5 e M = .ok (.d (.int x)) M) :
    fMeth "Ladder" m φ (fVar 3) (fCons (fVar 5) fNil) e M = .ok (.d w) M := by
  rw [meth_lad hm φ _ _ _ h3]
  simp [h5, h]
theorem amount_round (z : Stp3 q0 r0) {x : Int} (h0 : 0 ≤ x) (h1 : x < 60) (a6 a7 a8 a10 a11 a12 a13 : Option Val) :
    ∃ b12, amountBody (envM ns (q0 :: r0) (some (.d (.int x))) a6 a7 a8 none a10 a11 a12 a13) M = .nx (envM ns (q0 :: r0) (some (.d (.int x))) a6 a7 a8 none a10 a11 b12 a13) M := by
  obtain ⟨q, o, e, s, hq4, hqm⟩ := z.at h0
  obtain ⟨e1, e2, e3, e4⟩ := z.round h0 (by omega) e
  have hb := z.big
  have hq2 : q.2 < 1073741824 := by omega
  have m1 : fMeth "Ladder" "down" p_Ladder_down (fVar 3) (fCons (fVar 5) fNil) = fMeth "Ladder" "down" p_Ladder_down (fVar 3) (fCons (fVar 5) fNil) := rfl
  have d1 : p_Ladder_down [.d (lad (q0 :: r0)), .d (.int x)] M = .ok (.d (.int (Pk.downB q x))) M := r_down hb e s.pos hq2
  have d2 : p_Ladder_up [.d (lad (q0 :: r0)), .d (.int x)] M = .ok (.d (.int (Pk.upB q x))) M := r_up hb e s.pos hq2
  have d3 : p_Ladder_next_bid [.d (lad (q0 :: r0)), .d (.int x)] M = .ok (.d (.int (Pk.nextB q x))) M := r_next hb e s.pos hq2
  have d4 : p_Ladder_is_bid [.d (lad (q0 :: r0)), .d (.int x)] M = .ok (.d (.bl (decide (x ∈ B90 (q0 :: r0))))) M := by
    rw [r_is_bid hb e s.pos h0 (by omega)]
    have : ((x - q.1) % q.2 = 0) ↔ x ∈ B90 (q0 :: r0) := by rw [e4, Pk.down_iff s.pos]
    simp only [this]
  have d5 : p_Ladder_step_at [.d (lad (q0 :: r0)), .d (.int x)] M = .ok (.d (encS q)) M := r_step_at hb e
  have l1 := lcB (q0 := q0) (r0 := r0) (ns := ns) (M := M) (ts := asB (fOp opLe (fVar 16) (fVar 5))) (fun b => decide (b ≤ x)) (some (.d (.int x))) a6 a7 a8 none a10 a11 a12 a13 (fun b => by simp)
  have l2 := lcB (q0 := q0) (r0 := r0) (ns := ns) (M := M) (ts := asB (fOp opGe (fVar 16) (fVar 5))) (fun b => decide (x ≤ b)) (some (.d (.int x))) a6 a7 a8 none a10 a11 a12 a13 (fun b => by simp)
  have l3 := lcB (q0 := q0) (r0 := r0) (ns := ns) (M := M) (ts := asB (fOp opGt (fVar 16) (fVar 5))) (fun b => decide (x < b)) (some (.d (.int x))) a6 a7 a8 none a10 a11 a12 a13 (fun b => by simp)
  have k1 : atI (((B90 (q0 :: r0)).filter fun b => decide (b ≤ x)).map D.int) (-1) = some (.int (Pk.downB q x)) := atI_last (by rw [List.getLast?_map, e1]; rfl)
  have k2 : atI (((B90 (q0 :: r0)).filter fun b => decide (x ≤ b)).map D.int) 0 = some (.int (Pk.upB q x)) := atI_head (by rw [List.head?_map, e3]; rfl)
  have k3 : atI (((B90 (q0 :: r0)).filter fun b => decide (x < b)).map D.int) 0 = some (.int (Pk.nextB q x)) := atI_head (by rw [List.head?_map, e2]; rfl)
  have t1 : p__law_alike 4 [.d (.tup [.int (Pk.downB q x), .int (Pk.upB q x), .int (Pk.nextB q x)]), .d (.tup [.int (Pk.downB q x), .int (Pk.upB q x), .int (Pk.nextB q x)])] M = .ok (.d (.bl true)) M := alike M (by simp)
  have t2 : p__law_alike 4 [.d (encS q), .d (encS q)] M = .ok (.d (.bl true)) M := alike M (by simp [encS])
  have t3 := r_truth (decide (x ∈ B90 (q0 :: r0))) M
  refine ⟨some (.d (.tup [.int (Pk.downB q x), .int (Pk.upB q x), .int (Pk.nextB q x)])), ?_⟩
  generalize hE : envM ns (q0 :: r0) (some (.d (.int x))) a6 a7 a8 none a10 a11 (some (.d (.tup [.int (Pk.downB q x), .int (Pk.upB q x), .int (Pk.nextB q x)]))) a13 = E
  have v3 : fVar 3 E M = .ok (.d (lad (q0 :: r0))) M := by rw [← hE]; simp
  have v5 : fVar 5 E M = .ok (.d (.int x)) M := by rw [← hE]; simp
  have v4 : fVar 4 E M = .ok (.d (.lst ((B90 (q0 :: r0)).map D.int))) M := by rw [← hE]; simp
  have v12 : fVar 12 E M = .ok (.d (.tup [.int (Pk.downB q x), .int (Pk.upB q x), .int (Pk.nextB q x)])) M := by rw [← hE]; simp
  have l4 : fLc (iSeq (fVar 2)) (tName 9) (asB (fOp opLe (fOp opIx (fVar 9) (fC (.int 0))) (fVar 5))) (fVar 9) [9] E M = .ok (.d (.lst (((q0 :: r0).filter fun p => decide (p.1 ≤ x)).map encS))) M := by
    rw [← hE]
    have hi := x_seqT (xs := q0 :: r0) (enc := encS) (f := fVar 2) (e := envM ns (q0 :: r0) (some (.d (.int x))) a6 a7 a8 none a10 a11 (some (.d (.tup [.int (Pk.downB q x), .int (Pk.upB q x), .int (Pk.nextB q x)]))) a13) (M := M) (M1 := M) (by simp)
    exact x_lcT hi rfl trivial hb (fun p => decide (p.1 ≤ x)) encS fun p _ => ⟨_, rfl, by simp [encS], fun _ => by simp⟩
  have k4 : atI (((q0 :: r0).filter fun p => decide (p.1 ≤ x)).map encS) (-1) = some (encS q) := atI_last (by rw [List.getLast?_map]; show Option.map encS (Pk.at_ (q0 :: r0) x) = _; rw [e]; rfl)
  unfold amountBody
  rw [x_sSeq]
  have f1 : sSet 12 (fTup (fCons (fOp opIx (fLc (iSeq (fVar 4)) (tName 16) (asB (fOp opLe (fVar 16) (fVar 5))) (fVar 16) [16]) (fNeg (fC (.int 1)))) (fCons (fOp opIx (fLc (iSeq (fVar 4)) (tName 16) (asB (fOp opGe (fVar 16) (fVar 5))) (fVar 16) [16]) (fC (.int 0))) (fCons (fOp opIx (fLc (iSeq (fVar 4)) (tName 16) (asB (fOp opGt (fVar 16) (fVar 5))) (fVar 16) [16]) (fC (.int 0))) fNil)))) (envM ns (q0 :: r0) (some (.d (.int x))) a6 a7 a8 none a10 a11 a12 a13) M = .nx E M := by
    rw [← hE]
    simp [l1, l2, l3, k1, k2, k3]
  rw [f1]
  simp [v3, v5, v4, v12, meth1 (m := "down") (M := M) (by decide +kernel) d1 v3 v5, meth1 (m := "up") (M := M) (by decide +kernel) d2 v3 v5, meth1 (m := "next_bid") (M := M) (by decide +kernel) d3 v3 v5, meth1 (m := "is_bid") (M := M) (by decide +kernel) d4 v3 v5, meth1 (m := "step_at") (M := M) (by decide +kernel) d5 v3 v5, t1, t2, t3, l4, k4, x_inI]

noncomputable def turnBody : SF := (sSeq (sPar 13 8 (fCons (fCall p__law_taken (fCons (fVar 1) (fCons (fC (.int 50)) fNil))) (fCons (fCall p__law_taken (fCons (fVar 1) (fCons (fC (.int 60)) fNil))) fNil)))
  (sIf (bNot (asT (fCall (p__law_alike 4) (fCons (fMeth "Ladder" "rungs" p_Ladder_rungs (fVar 3) (fCons (fVar 13) (fCons (fVar 8) fNil))) (fCons (fun e M => rbind ((fCons (fLc (iSeq (fVar 4)) (tName 16) (asB (fChain opLe opLe (fVar 13) (fVar 16) (fVar 8))) (fVar 16) [16]) fNil) e M) bLen) fNil))))) (sRet (fC (.bl false))) sNil))
theorem turn_round (z : Stp3 q0 r0) (hM : inRow ns M) (a5 a6 a7 a8 a9 a10 a11 a12 a13 : Option Val) :
    ∃ b8 b13 M', inRow ns M' ∧ turnBody (envM ns (q0 :: r0) a5 a6 a7 a8 a9 a10 a11 a12 a13) M = .nx (envM ns (q0 :: r0) a5 a6 a7 b8 a9 a10 a11 a12 b13) M' := by
  obtain ⟨f, M1, hM1, f0, f1, t1⟩ := r_takenRow hM (m := 50) (by decide) (by decide)
  obtain ⟨l, M2, hM2, l0, l1, t2⟩ := r_takenRow hM1 (m := 60) (by decide) (by decide)
  obtain ⟨q, o, e, s, hq4, hqm⟩ := z.at f0
  refine ⟨some (.d (.int l)), some (.d (.int f)), M2, hM2, ?_⟩
  generalize hE : envM ns (q0 :: r0) a5 a6 a7 (some (.d (.int l))) a9 a10 a11 a12 (some (.d (.int f))) = E
  have v3 : fVar 3 E M2 = .ok (.d (lad (q0 :: r0))) M2 := by rw [← hE]; simp
  have v13 : fVar 13 E M2 = .ok (.d (.int f)) M2 := by rw [← hE]; simp
  have v8 : fVar 8 E M2 = .ok (.d (.int l)) M2 := by rw [← hE]; simp
  have u : p_Ladder_up [.d (lad (q0 :: r0)), .d (.int f)] M2 = .ok (.d (.int (Pk.upB q f))) M2 := r_up z.big e s.pos (by omega)
  have g := r_rungs (last := l) (Nat.lt_of_le_of_lt z.len (by decide)) (Pk.asc z.ch) (fun p hp => by obtain ⟨a, b, _⟩ := z.st p hp; omega) u
  have lw := Pk.rungs_law (last := l) (L := 90) (n := 91) z.ch z.zero (by omega) (by decide) f0 e
  have lb : fLc (iSeq (fVar 4)) (tName 16) (asB (fChain opLe opLe (fVar 13) (fVar 16) (fVar 8))) (fVar 16) [16] E M2 = .ok (.d (.lst (((B90 (q0 :: r0)).filter fun b => decide (f ≤ b ∧ b ≤ l)).map D.int))) M2 := by
    rw [← hE]
    exact lcB (fun b => decide (f ≤ b ∧ b ≤ l)) a5 a6 a7 (some (.d (.int l))) a9 a10 a11 a12 (some (.d (.int f))) fun b => by
      by_cases h : f ≤ b <;> simp [h]
  have m : fMeth "Ladder" "rungs" p_Ladder_rungs (fVar 3) (fCons (fVar 13) (fCons (fVar 8) fNil)) E M2 = .ok (.d (.int ((((B90 (q0 :: r0)).filter fun b => decide (f ≤ b ∧ b ≤ l)).length : Nat) : Int))) M2 := by
    rw [meth_lad (m := "rungs") (by decide +kernel) _ _ _ _ v3]
    simp only [x_fCons, v13, v8, rbind_ok, x_fNil]
    rw [g, lw]
  have a := alike M2 (d := .int ((((B90 (q0 :: r0)).filter fun b => decide (f ≤ b ∧ b ≤ l)).length : Nat) : Int)) (by simp)
  unfold turnBody
  rw [x_sSeq]
  have h1 : sPar 13 8 (fCons (fCall p__law_taken (fCons (fVar 1) (fCons (fC (.int 50)) fNil))) (fCons (fCall p__law_taken (fCons (fVar 1) (fCons (fC (.int 60)) fNil))) fNil)) (envM ns (q0 :: r0) a5 a6 a7 a8 a9 a10 a11 a12 a13) M = .nx E M2 := by
    rw [← hE]
    simp [t1, t2]
  rw [h1]
  dsimp only
  simp only [x_sIf, x_bNot, x_asT, x_fCall, x_fCons, m, lb, rbind_ok, x_fNil, x_bLen_map, a, x_tru_bl]
  simp
noncomputable def valueBody : SF := (sIf (asB (fOp (opIsB true) (fMeth "Ladder" "is_bid" p_Ladder_is_bid (fVar 3) (fCons (fVar 7) fNil)) (fC (.bl false)))) (sRet (fC (.bl false))) sNil)
theorem value_round {x : D} (hp : plain x = true) (hx : isNum 0 99999 x = false) (a5 a6 a8 a9 a10 a11 a12 a13 : Option Val) :
    valueBody (envM ns (q0 :: r0) a5 a6 (some (.d x)) a8 a9 a10 a11 a12 a13) M = .nx (envM ns (q0 :: r0) a5 a6 (some (.d x)) a8 a9 a10 a11 a12 a13) M := by
  have d : p_Ladder_is_bid [.d (lad (q0 :: r0)), .d x] M = .ok (.d (.bl false)) M := r_is_bid_no hp hx
  have m : fMeth "Ladder" "is_bid" p_Ladder_is_bid (fVar 3) (fCons (fVar 7) fNil) (envM ns (q0 :: r0) a5 a6 (some (.d x)) a8 a9 a10 a11 a12 a13) M = .ok (.d (.bl false)) M := by
    rw [meth_lad (m := "is_bid") (by decide +kernel) _ _ _ _ (by simp; rfl)]
    simp [d]
  unfold valueBody
  rw [x_sIf, x_asB, x_fOp, m]
  rfl
end
/-! ### steps with one more -/
/-- how a row is refused -/
def Refd (x due : D) : Prop := ∀ M, p__law_raised [.d x] M = .ok (.d due) M
theorem wrong_more1 : ∀ {r : List (Int × Int)} {q l p : Int × Int} {i : Nat}, Pk.Chain q r → (q :: r).getLast? = some l → (p.1 ≤ l.1 ∨ (p.1 - l.1) % l.2 ≠ 0) → wrongAt (some q) i (r ++ [p]) = some (i + r.length)
  | [], q, l, p, i, _, hl, hb => by
    cases hl
    have hb : p.1 ≤ q.1 ∨ (p.1 - q.1) % q.2 ≠ 0 := hb
    show wrongAt (some q) i [p] = _
    rw [wrongAt, if_pos hb]
    rfl
  | x :: r, q, l, p, i, h, hl, hb => by
    cases h with
    | cons a b c d =>
      show wrongAt (some q) i (x :: (r ++ [p])) = _
      rw [wrongAt, if_neg (by omega), wrong_more1 d (by rw [List.getLast?_cons_cons] at hl; exact hl) hb, List.length_cons]
      congr 1
      omega
theorem wrong_more {q l p : Int × Int} {r : List (Int × Int)} (h0 : q.1 = 0) (h : Pk.Chain q r) (hl : (q :: r).getLast? = some l) (hb : p.1 ≤ l.1 ∨ (p.1 - l.1) % l.2 ≠ 0) : wrongAt none 0 ((q :: r) ++ [p]) = some (q :: r).length := by
  show wrongAt none 0 (q :: (r ++ [p])) = _
  rw [wrongAt, if_pos h0, wrong_more1 h hl hb, List.length_cons]
  congr 1
  omega
theorem ok_encS : ∀ (ps : List (Int × Int)), ∀ y ∈ ps.map encS, itemOk y = true := fun ps y hy => by
  obtain ⟨p, _, rfl⟩ := List.mem_map.mp hy
  rfl
/-- no pair of numbers -/
theorem refd_item (z : Stp3 q0 r0) {y : D} (hy : itemOk y = true) (hs : stepB y = false) : Refd (.tup ((q0 :: r0).map encS ++ [y])) (.tup [.str "item", .int ((q0 :: r0).length : Nat)]) := fun M => by
  refine raised_item (r_init_e ?_)
  have h := r_want (x := .tup ((q0 :: r0).map encS ++ [y])) (.inl rfl) (fun w hw => by
    rcases List.mem_append.mp hw with hw | hw
    · exact ok_encS _ w hw
    · rw [List.mem_singleton.mp hw]; exact hy) (M ++ [.ins "Ladder" []])
  have hf : firstBad 0 ((q0 :: r0).map encS ++ [y]) = some (q0 :: r0).length := by
    rw [asi_bad (asi_self (q0 :: r0)) z.fit, firstBad, if_neg (by rw [hs]; exact Bool.false_ne_true), Nat.zero_add]
  rw [hf] at h
  exact h
theorem want_steps {ps : List (Int × Int)} (hp : ∀ q ∈ ps, fits q) (hl : ps.length ≤ 12) (M : Mem) : p_want_row [.d (.tup (ps.map encS)), .d (.glo "is_step"), .d (.int 12)] M = .ok (.d (.tup (ps.map encS))) M := by
  have hf : firstBad 0 (ps.map encS) = none := by
    have := asi_bad (asi_self ps) hp 0 []
    rw [List.append_nil] at this
    exact this
  have h := r_want (x := .tup (ps.map encS)) (.inl rfl) (ok_encS ps) M
  rw [hf] at h
  dsimp only at h
  rw [List.length_map, if_neg (by omega), asi_fz (asi_self ps)] at h
  exact h
theorem refd_wrong {ps : List (Int × Int)} {j : Nat} (hp : ∀ q ∈ ps, fits q) (hl : ps.length ≤ 12) (hne : ps ≠ []) (hw : wrongAt none 0 ps = some j) : Refd (.tup (ps.map encS)) (.tup [.str "item", .int (j : Nat)]) := fun M =>
  raised_item (r_init_x (want_steps hp hl _) (fun p h => by have := (hp p h).2.2.1; omega) hne hw)
theorem refd_step (z : Stp3 q0 r0) {l p : Int × Int} (hp : fits p) (hl : (q0 :: r0).getLast? = some l) (hb : p.1 ≤ l.1 ∨ (p.1 - l.1) % l.2 ≠ 0) : Refd (.tup ((q0 :: r0).map encS ++ [encS p])) (.tup [.str "item", .int ((q0 :: r0).length : Nat)]) := by
  have h := refd_wrong (ps := (q0 :: r0) ++ [p]) (fun q hq => by
    rcases List.mem_append.mp hq with hq | hq
    · exact z.fit q hq
    · rw [List.mem_singleton.mp hq]; exact hp) (by rw [List.length_append]; have := z.len; simp at this ⊢; omega) (by simp) (wrong_more z.zero z.ch hl hb)
  rw [List.map_append] at h
  exact h
theorem refd_none : Refd .non (.tup [.str "item", .non]) := fun M => raised_item (r_init_e (r_want_no rfl rfl _))
theorem refd_nil : Refd (.tup []) (.tup [.str "item", .non]) := fun M => raised_item (r_init_0 (want_steps (ps := []) (fun _ h => nomatch h) (by decide) _))
theorem refd_11 : Refd (.tup [.tup [.int 1, .int 1]]) (.tup [.str "item", .int 0]) := refd_wrong (ps := [(1, 1)]) (j := 0) (by simp [fits]) (by decide) (by simp) (by decide)
theorem refd_23 : Refd (.tup [.tup [.int 0, .int 2], .tup [.int 3, .int 1]]) (.tup [.str "item", .int 1]) := refd_wrong (ps := [(0, 2), (3, 1)]) (j := 1) (by simp [fits]) (by decide) (by simp) (by decide)
theorem refd_44 : Refd (.tup [.tup [.int 0, .int 2], .tup [.int 4, .int 3], .tup [.int 4, .int 1]]) (.tup [.str "item", .int 2]) := refd_wrong (ps := [(0, 2), (4, 3), (4, 1)]) (j := 2) (by simp [fits]) (by decide) (by simp) (by decide)
abbrev rows13 : List D := (List.range 13).map fun i : Nat => .tup [.int (i : Int), .int 1]
theorem refd_13 : Refd (.lst rows13) (.tup [.str "many", .int 12]) := fun M => by
  refine raised_many (r_init_e ?_)
  have h := r_want (x := .lst rows13) (.inr rfl) (fun w hw => by
    obtain ⟨i, _, rfl⟩ := List.mem_map.mp hw
    rfl) (M ++ [.ins "Ladder" []])
  have hf : firstBad 0 rows13 = none := by decide
  rw [hf] at h
  dsimp only at h
  rw [if_pos (by simp)] at h
  exact h
end
end Wk00
set_option Elab.async false
set_option linter.all false
set_option maxRecDepth 100000
set_option maxHeartbeats 1000000
/-! Of00: the law k00, all of it. -/
namespace Wk00
open PySem PySem.Spec PyProof.Rows L2 Vl Vx
section
variable {q0 : Int × Int} {r0 : List (Int × Int)} {ns : List Int} {M : Mem}
/-! ### the first look -/
theorem last_seg (z : Stp3 q0 r0) : ∃ l, (q0 :: r0).getLast? = some l ∧ l ∈ q0 :: r0 ∧ ∀ x : Int, 40 ≤ x → Pk.at_ (q0 :: r0) x = some l := by
  obtain ⟨l, hl⟩ : ∃ l, (q0 :: r0).getLast? = some l := by
    cases h : (q0 :: r0).getLast? with
    | none => simp at h
    | some l => exact ⟨l, rfl⟩
  refine ⟨l, hl, List.mem_of_getLast? hl, fun x hx => ?_⟩
  unfold Pk.at_
  rw [List.filter_eq_self.mpr (fun p hp => by have := (z.st p hp).2.2.2; simp; omega)]
  exact hl
theorem r_more (z : Stp3 q0 r0) : ∃ b : Int, p__law_bids [.d (.tup ((q0 :: r0).map encS)), .d (.int 200)] M = .ok (.d (.lst ((Pk.bidsF (q0 :: r0) 200 201 0).map D.int))) M ∧
    atI ((Pk.bidsF (q0 :: r0) 200 201 0).map D.int) (-1) = some (.int b) ∧ mkIns true "Ladder" p_Ladder_init [.d (.tup ((q0 :: r0).map encS ++ [.tup [.int b, .int 9]]))] M = .ok (.d (lad ((q0 :: r0) ++ [(b, 9)]))) M := by
  obtain ⟨l, hl, hm, hat⟩ := last_seg z
  obtain ⟨a1, a2, a3, a4⟩ := z.st l hm
  have e := hat 200 (by decide)
  have hb := Pk.bids_last z.ch (last := 200) (n := 201) (h := 0) (by rw [z.zero]; decide) (Pk.bid0 z.ch z.zero) (by decide) (by decide) e
  refine ⟨Pk.downB l 200, r_bidsI z.big z.ch z.zero (by unfold smallI; decide) (m := 201) rfl (by decide), atI_last (by rw [List.getLast?_map, hb]; rfl), ?_⟩
  have hlo : 190 < Pk.downB l 200 := by
    have := Pk.lt_next (q := l) (x := 200) (by omega)
    rw [Pk.nextB_eq] at this
    omega
  have hhi := Pk.down_le (q := l) (x := 200) (by omega)
  have hc : Pk.Chain q0 (r0 ++ [(Pk.downB l 200, 9)]) := chain_snoc z.ch hl (by show (0 : Int) < 9; decide) (by show l.1 < Pk.downB l 200; omega) (Pk.chain_more (x := 200) (p := (Pk.downB l 200, 9)) z.ch hl (by omega) (by show (0 : Int) < 9; decide) rfl (by show l.1 < Pk.downB l 200; omega))
  have hx : All2 Asi ((q0 :: (r0 ++ [(Pk.downB l 200, 9)])).map encS) ((q0 :: r0).map encS ++ [.tup [.int (Pk.downB l 200), .int 9]]) := by
    have := asi_self (q0 :: (r0 ++ [(Pk.downB l 200, 9)]))
    rw [show ((q0 :: r0).map encS ++ [D.tup [.int (Pk.downB l 200), .int 9]]) = (q0 :: (r0 ++ [(Pk.downB l 200, 9)])).map encS from by simp [encS]]
    exact this
  exact r_ladder (.inl rfl) hx z.zero hc (fun p hp => by
    have hp : p ∈ (q0 :: r0) ++ [(Pk.downB l 200, 9)] := hp
    rcases List.mem_append.mp hp with hp | hp
    · exact z.fit p hp
    · rw [List.mem_singleton.mp hp]
      show 0 ≤ Pk.downB l 200 ∧ Pk.downB l 200 ≤ 99999 ∧ (1 : Int) ≤ 9 ∧ (9 : Int) ≤ 99999
      omega) (by have := z.len; simp at this ⊢; omega)
noncomputable def lookB : BF := (bOr (bNot (asT (fCall (p__law_alike 4) (fCons (fAttr ["Ladder"] "steps" (fVar 3)) (fCons (fVar 2) fNil))))) (bOr (asB (fOp (opOwn true "Ladder" p_Ladder_eq) (fVar 3) (fMake true "Ladder" p_Ladder_init (fCons (fVar 2) fNil)))) (bOr (asB (fOp (opOwn false "Ladder" p_Ladder_eq) (fVar 3) (fVar 2))) (asB (fOp (opOwn false "Ladder" p_Ladder_eq) (fVar 3) (fMake true "Ladder" p_Ladder_init (fCons (fOp opAdd (fVar 2) (fTup (fCons (fTup (fCons (fOp opIx (fCall p__law_bids (fCons (fVar 2) (fCons (fC (.int 200)) fNil))) (fNeg (fC (.int 1)))) (fCons (fC (.int 9)) fNil))) fNil))) fNil)))))))
theorem look_ok (z : Stp3 q0 r0) (a5 a6 a7 a8 a9 a10 a11 a12 a13 : Option Val) : lookB (envM ns (q0 :: r0) a5 a6 a7 a8 a9 a10 a11 a12 a13) M = .ok false M := by
  obtain ⟨b, e1, e2, e3⟩ := r_more (M := M) z
  have k0 := lad_insD M (q0 :: r0)
  have k1 : p__law_alike 4 [.d (.tup ((q0 :: r0).map encS)), .d (.tup ((q0 :: r0).map encS))] M = .ok (.d (.bl true)) M := alike M ((al_tup _).mpr ⟨by rw [List.length_map]; exact z.big, fun x hx => by
    obtain ⟨p, _, rfl⟩ := List.mem_map.mp hx
    simp [encS]⟩)
  have k2 := r_ladder (x := .tup ((q0 :: r0).map encS)) (M := M) (.inl rfl) (asi_self (q0 :: r0)) z.zero z.ch z.fit (Nat.le_trans z.len (by decide))
  have k3 : ¬ ((q0 :: r0) = (q0 :: r0) ++ [(b, 9)]) := fun h => by
    have := congrArg List.length h
    simp at this
  have k4 : ((q0 :: r0).map encS).length + [D.tup [.int b, .int 9]].length ≤ 16777216 := by
    have := z.len
    rw [List.length_map]
    simp at this ⊢
    omega
  generalize hps : q0 :: r0 = ps at *
  have o1 := own_lad true ps ps M
  have o2 := own_lad false ps (ps ++ [(b, 9)]) M
  have o3 := own_tup ps (ps.map encS) M
  rw [if_pos rfl, decide_eq_true (rfl : ps = ps)] at o1
  rw [if_neg Bool.false_ne_true, decide_eq_false k3] at o2
  generalize hl : ps.map encS = l at *
  unfold lookB
  simp [x_fMake, hl, k0, k1, k2, o1, o3, e1, e2]
  rw [if_pos (by simpa using k4)]
  simp [e3, o2]

/-! ### the refused rows -/
noncomputable def badSet : SF := (sSet 10 (fCall p__law_pick (fCons (fVar 1) (fCons (fLst (fCons (fTup (fCons (fOp opAdd (fVar 8) (fVar 9)) (fCons (fC (.int 0)) fNil))) (fCons (fTup (fCons (fOp opAdd (fVar 8) (fVar 9)) (fCons (fC (.int 100000)) fNil))) (fCons (fTup (fCons (fC (.int 100000)) (fCons (fC (.int 1)) fNil))) (fCons (fTup (fCons (fOp opAdd (fVar 8) (fVar 9)) fNil)) (fCons (fC .non) (fCons (fTup (fCons (fC (.bl true)) (fCons (fC (.int 1)) fNil))) (fCons (fTup (fCons (fVar 8) (fCons (fC (.int 1)) fNil))) (fCons (fTup (fCons (fOp opAdd (fOp opAdd (fVar 8) (fOp opMul (fVar 9) (fC (.int 2)))) (fC (.int 1))) (fCons (fC (.int 1)) fNil))) fNil))))))))) fNil))))
noncomputable def badIf : SF := (sIf (bAnd (asB (fOp opEq (fVar 10) (fTup (fCons (fOp opAdd (fOp opAdd (fVar 8) (fOp opMul (fVar 9) (fC (.int 2)))) (fC (.int 1))) (fCons (fC (.int 1)) fNil))))) (asB (fOp opEq (fVar 9) (fC (.int 1))))) (sSet 10 (fC .non)) sNil)
theorem bad_ok (z : Stp3 q0 r0) {l : Int × Int} (hM : inRow ns M) (hl : (q0 :: r0).getLast? = some l) (a5 a6 a7 a10 a11 a12 a13 : Option Val) :
    ∃ bad0 bad M', inRow ns M' ∧ Refd (.tup ((q0 :: r0).map encS ++ [bad])) (.tup [.str "item", .int ((q0 :: r0).length : Nat)]) ∧ badSet (envM ns (q0 :: r0) a5 a6 a7 (some (.d (.int l.1))) (some (.d (.int l.2))) a10 a11 a12 a13) M = .nx (envM ns (q0 :: r0) a5 a6 a7 (some (.d (.int l.1))) (some (.d (.int l.2))) (some (.d bad0)) a11 a12 a13) M' ∧
      badIf (envM ns (q0 :: r0) a5 a6 a7 (some (.d (.int l.1))) (some (.d (.int l.2))) (some (.d bad0)) a11 a12 a13) M' = .nx (envM ns (q0 :: r0) a5 a6 a7 (some (.d (.int l.1))) (some (.d (.int l.2))) (some (.d bad)) a11 a12 a13) M' := by
  obtain ⟨s1, s2, s3, s4⟩ := z.st l (List.mem_of_getLast? hl)
  obtain ⟨x, M', hM', hx, e⟩ := r_pickRow hM (l := [.tup [.int (l.1 + l.2), .int 0], .tup [.int (l.1 + l.2), .int 100000], .tup [.int 100000, .int 1], .tup [.int (l.1 + l.2)], .non, .tup [.bl true, .int 1], .tup [.int l.1, .int 1], .tup [.int (l.1 + l.2 * 2 + 1), .int 1]]) (by show 0 < 8; decide) (by show 8 < _; decide)
  have hm : CMul l.2 2 := cmul_r (by decide)
  have h1 : badSet (envM ns (q0 :: r0) a5 a6 a7 (some (.d (.int l.1))) (some (.d (.int l.2))) a10 a11 a12 a13) M = .nx (envM ns (q0 :: r0) a5 a6 a7 (some (.d (.int l.1))) (some (.d (.int l.2))) (some (.d x)) a11 a12 a13) M' := by
    simp [badSet, hm, e]
  have hT : Sh 1 (.tup [.int (l.1 + l.2 * 2 + 1), .int 1]) := by simp
  have hno : ∀ {y : D}, Sh 1 y → eqD y (.tup [.int (l.1 + l.2 * 2 + 1), .int 1]) = false → badIf (envM ns (q0 :: r0) a5 a6 a7 (some (.d (.int l.1))) (some (.d (.int l.2))) (some (.d y)) a11 a12 a13) M' = .nx (envM ns (q0 :: r0) a5 a6 a7 (some (.d (.int l.1))) (some (.d (.int l.2))) (some (.d y)) a11 a12 a13) M' := fun {y} hy hq => by
    have q := x_eq (M := M') hy hT
    rw [hq] at q
    simp [badIf, hm, q]
  simp only [List.mem_cons, List.not_mem_nil, or_false] at hx
  rcases hx with rfl | rfl | rfl | rfl | rfl | rfl | rfl | rfl
  · exact ⟨_, _, M', hM', refd_item z rfl (by simp [stepB, stepL, isNum]), h1, hno (by simp) (by simp)⟩
  · exact ⟨_, _, M', hM', refd_item z rfl (by simp [stepB, stepL, isNum]), h1, hno (by simp) (by simp)⟩
  · exact ⟨_, _, M', hM', refd_item z rfl (by simp [stepB, stepL, isNum]), h1, hno (by simp) (by simp; omega)⟩
  · exact ⟨_, _, M', hM', refd_item z rfl (by simp [stepB, stepL, isNum]), h1, hno (by simp) (by simp)⟩
  · exact ⟨_, _, M', hM', refd_item z rfl rfl, h1, hno (by simp) (by simp)⟩
  · exact ⟨_, _, M', hM', refd_item z rfl (by simp [stepB, stepL, isNum]), h1, hno (by simp) (by simp; omega)⟩
  · exact ⟨_, _, M', hM', refd_step (p := (l.1, 1)) z (by show 0 ≤ l.1 ∧ l.1 ≤ 99999 ∧ (1 : Int) ≤ 1 ∧ (1 : Int) ≤ 99999; omega) hl (.inl (Int.le_refl _)), h1, hno (by simp) (by simp; omega)⟩
  · have q := x_eq (M := M') hT hT
    have hTT : eqD (.tup [.int (l.1 + l.2 * 2 + 1), .int 1]) (.tup [.int (l.1 + l.2 * 2 + 1), .int 1]) = true := by simp
    rw [hTT] at q
    have c1 : asB (fOp opEq (fVar 10) (fTup (fCons (fOp opAdd (fOp opAdd (fVar 8) (fOp opMul (fVar 9) (fC (.int 2)))) (fC (.int 1))) (fCons (fC (.int 1)) fNil)))) (envM ns (q0 :: r0) a5 a6 a7 (some (.d (.int l.1))) (some (.d (.int l.2))) (some (.d (.tup [.int (l.1 + l.2 * 2 + 1), .int 1]))) a11 a12 a13) M' = .ok true M' := by simp [hm, q]
    have c2 : asB (fOp opEq (fVar 9) (fC (.int 1))) (envM ns (q0 :: r0) a5 a6 a7 (some (.d (.int l.1))) (some (.d (.int l.2))) (some (.d (.tup [.int (l.1 + l.2 * 2 + 1), .int 1]))) a11 a12 a13) M' = .ok (decide (l.2 = 1)) M' := by simp
    by_cases h2 : l.2 = 1
    · refine ⟨_, .non, M', hM', refd_item z rfl rfl, h1, ?_⟩
      rw [decide_eq_true h2] at c2
      unfold badIf
      rw [x_sIf, x_bAnd, c1, rbind_ok, if_pos rfl, c2]
      rfl
    · refine ⟨_, _, M', hM', refd_step (p := (l.1 + l.2 * 2 + 1, 1)) z (by show 0 ≤ l.1 + l.2 * 2 + 1 ∧ l.1 + l.2 * 2 + 1 ≤ 99999 ∧ (1 : Int) ≤ 1 ∧ (1 : Int) ≤ 99999; omega) hl (.inr ?_), h1, ?_⟩
      · show (l.1 + l.2 * 2 + 1 - l.1) % l.2 ≠ 0
        rw [show l.1 + l.2 * 2 + 1 - l.1 = 1 + l.2 * 2 by omega, Int.add_mul_emod_self_left, Int.emod_eq_of_lt (by decide) (by omega)]
        decide
      · rw [decide_eq_false h2] at c2
        unfold badIf
        rw [x_sIf, x_bAnd, c1, rbind_ok, if_pos rfl, c2]
        rfl
/-- an answer (word, field) -/
def Du (d : D) : Prop := ∃ s v, d = .tup [.str s, v] ∧ (s = "item" ∨ s = "many") ∧ (v = .non ∨ ∃ j, v = .int j)
theorem r_refused {d : D} (h : Du d) (M : Mem) : p__law_refused_row [.d d, .d d] M = .ok (.d (.bl true)) M := by
  obtain ⟨s, v, rfl, hs, hv⟩ := h
  have hsh : Sh 1 (.tup [.str s, v]) := by
    have h1 : Sh 0 (.str s) := (sh_str s).mpr (by rcases hs with rfl | rfl <;> kernel_rfl)
    have h2 : Sh 0 v := by rcases hv with rfl | ⟨j, rfl⟩ <;> simp
    simp [h1, h2]
  have q := x_eq (M := M) hsh hsh
  have hq : eqD (.tup [.str s, v]) (.tup [.str s, v]) = true := by rcases hv with rfl | ⟨j, rfl⟩ <;> simp
  rw [hq] at q
  have w : ∃ b, p__law_whole [.d v] M = .ok (.d (.bl b)) M := by
    rcases hv with rfl | ⟨j, rfl⟩
    · exact ⟨false, (x_call rfl (v := .d (.bl false)) (M' := M) (by simp [b__law_whole, env0, isB])).trans (x_finish _ _ _ rfl)⟩
    · exact ⟨true, (x_call rfl (v := .d (.bl true)) (M' := M) (by simp [b__law_whole, env0, isB])).trans (x_finish _ _ _ rfl)⟩
  obtain ⟨b, w⟩ := w
  refine (x_call rfl (v := .d (.bl true)) (M' := M) ?_).trans (x_finish _ _ _ rfl)
  simp [b__law_refused_row, env0, q, w]
def encC (p : D × D) : D := .tup [p.1, p.2]
theorem checks_ok {cs : List (D × D)} (hl : cs.length ≤ big) (h : ∀ c ∈ cs, Refd c.1 c.2 ∧ Du c.2) (e0 e1 e2 e3 e4 e5 e6 e7 e8 e9 e10 e12 e13 e15 e16 : Option Val) :
    sRet (fOp opEq (fLc (iSeq (fVar 11)) (tName 14) (bNot (asT (fCall p__law_refused_row (fCons (fCall p__law_raised (fCons (fOp opIx (fVar 14) (fC (.int 0))) fNil)) (fCons (fOp opIx (fVar 14) (fC (.int 1))) fNil))))) (fVar 14) [14]) (fLst fNil)) [e0, e1, e2, e3, e4, e5, e6, e7, e8, e9, e10, some (.d (.lst (cs.map encC))), e12, e13, none, e15, e16] M = .rt (.d (.bl true)) M := by
  have hi := x_seqL (xs := cs) (enc := encC) (f := fVar 11) (e := [e0, e1, e2, e3, e4, e5, e6, e7, e8, e9, e10, some (.d (.lst (cs.map encC))), e12, e13, none, e15, e16]) (M := M) (M1 := M) (by simp)
  have key := x_lcT (t := tName 14) (ts := bNot (asT (fCall p__law_refused_row (fCons (fCall p__law_raised (fCons (fOp opIx (fVar 14) (fC (.int 0))) fNil)) (fCons (fOp opIx (fVar 14) (fC (.int 1))) fNil))))) (el := fVar 14) (vs := [14]) hi rfl trivial hl (fun _ => false) encC fun c hc => ⟨_, rfl, by
    obtain ⟨h1, h2⟩ := h c hc
    simp [encC, h1 M, r_refused h2 M], fun z => nomatch z⟩
  rw [show cs.filter (fun _ => false) = [] from by simp, List.map_nil] at key
  rw [x_sRet, x_fOp, key]
  simp [x_eqE]
theorem rows_ok (e : En) (he : e.length = 17) : ∀ M, fLc (iRng1' (fCons (fC (.int 13)) fNil)) (tName 15) bYes (fTup (fCons (fVar 15) (fCons (fC (.int 1)) fNil))) [15] e M = .ok (.d (.lst rows13)) M := fun M => by
  match e, he with
  | [e0, e1, e2, e3, e4, e5, e6, e7, e8, e9, e10, e11, e12, e13, e14, e15, e16], _ =>
    exact x_lcT1 (fi := iRng1' (fCons (fC (.int 13)) fNil)) (v := ivRng 0 13) (M1 := M) rfl (rngD_map 13) trivial (by decide) (fun i : Nat => D.tup [.int (i : Int), .int 1]) fun i _ => ⟨_, rfl, rfl, by simp⟩
end
theorem law_ok (ns : List Int) : ∃ M, p_law [.d (.scr ns)] [] = .ok (.d (.bl true)) M := by
  obtain ⟨q0, r0, b, c, d, hb, h0, hc, hlen, hst, e1⟩ := r_steps (ns := ns) (b := 0) (c := 17) (d := 0) (by decide)
  have z : Stp3 q0 r0 := ⟨h0, hc, hlen, hst⟩
  have hM1 : inRow ns [rowO ns b c d] := ⟨b, c, d, hb, rfl⟩
  obtain ⟨M2, hM2, e2⟩ := r_made hM1 h0 hc z.fit (Nat.le_trans hlen (by decide)) none none none none none none none none none none none none none
  obtain ⟨l, hl, hlm, _⟩ := last_seg z
  refine w_call (R' := fun r => ∃ M, r = .ok (.d (.bl true)) M) rfl ?_
  unfold b_law
  refine w_seq (e1 := [some (.d (.scr ns)), some (.obj 0), none, none, none, none, none, none, none, none, none, none, none, none, none, none, none]) (M1 := [rowO ns 0 17 0]) rfl ?_
  refine w_seq (e1 := envL ns (q0 :: r0) [none, none, none, none, none, none, none, none, none, none, none, none, none, none]) (M1 := [rowO ns b c d]) (by simp [e1]) ?_
  refine w_seq (e1 := envM ns (q0 :: r0) none none none none none none none none none) (M1 := M2) (by have hB := r_bids90 (M := M2) z; rw [List.map_cons] at hB; rw [x_sPar, x_fCons, e2]; simp [hB]) ?_
  refine w_pass (M1 := M2) (look_ok z _ _ _ _ _ _ _ _ _) ?_
  refine w_forN (xs := List.range 60) (enc := fun i : Nat => D.int i) (v := ivRng 0 60) (M1 := M2) rfl (rngD_map 60) (fun _ => trivial) (fun r e M => (∀ i ∈ r, i < 60) ∧ inRow ns M ∧ ∃ a5 a12, e = envM ns (q0 :: r0) a5 none none none none none none a12 none) ⟨fun i hi => List.mem_range.mp hi, hM2, none, none, rfl⟩
    (by
      rintro i r e M ⟨hi, hM, a5, a12, rfl⟩
      obtain ⟨b12, h⟩ := amount_round (ns := ns) (M := M) z (x := (i : Int)) (by omega) (by have := hi i List.mem_cons_self; omega) none none none none none a12 none
      exact ⟨_, rfl, _, _, h, fun j hj => hi j (List.mem_cons_of_mem _ hj), hM, _, _, rfl⟩) ?_
  rintro e M3 ⟨_, hM3, a5, a12, rfl⟩
  refine w_forN (xs := List.range 4) (enc := fun i : Nat => D.int i) (v := ivRng 0 4) (M1 := M3) rfl (rngD_map 4) (fun _ => trivial) (fun r e M => inRow ns M ∧ ∃ a6 a8 a13, e = envM ns (q0 :: r0) a5 a6 none a8 none none none a12 a13) ⟨hM3, none, none, none, rfl⟩
    (by
      rintro i r e M ⟨hM, a6, a8, a13, rfl⟩
      obtain ⟨b8, b13, M', hM', h⟩ := turn_round z hM a5 (some (.d (.int (i : Int)))) none a8 none none none a12 a13
      exact ⟨_, rfl, _, _, h, hM', _, _, _, rfl⟩) ?_
  rintro e M4 ⟨hM4, a6, a8, a13, rfl⟩
  refine w_forN (xs := [D.non, .bl true, .int (-1), .str "5", .int 100000]) (enc := fun x : D => x) (v := ivSeq (.d (.lst [D.non, .bl true, .int (-1), .str "5", .int 100000])) [D.non, .bl true, .int (-1), .str "5", .int 100000]) (M1 := M4) rfl rfl (fun _ => trivial) (fun r e M => (∀ x ∈ r, plain x = true ∧ isNum 0 99999 x = false) ∧ inRow ns M ∧ ∃ a7, e = envM ns (q0 :: r0) a5 a6 a7 a8 none none none a12 a13) ⟨by decide, hM4, none, rfl⟩
    (by
      rintro x r e M ⟨hx, hM, a7, rfl⟩
      obtain ⟨h1, h2⟩ := hx x List.mem_cons_self
      exact ⟨_, rfl, _, _, value_round h1 h2 a5 a6 a8 none none none a12 a13, fun y hy => hx y (List.mem_cons_of_mem _ hy), hM, _, rfl⟩) ?_
  rintro e M5 ⟨_, hM5, a7, rfl⟩
  have hat : atI ((q0 :: r0).map encS) (-1) = some (encS l) := atI_last (by rw [List.getLast?_map, hl]; rfl)
  refine w_seq (e1 := envM ns (q0 :: r0) a5 a6 a7 (some (.d (.int l.1))) (some (.d (.int l.2))) none none a12 a13) (M1 := M5) (by rw [List.map_cons] at hat; simp [hat]; simp [encS]) ?_
  obtain ⟨bad0, bad, M6, hM6, hbad, e3, e4⟩ := bad_ok z hM5 hl a5 a6 a7 none none a12 a13
  refine w_seq (e1 := envM ns (q0 :: r0) a5 a6 a7 (some (.d (.int l.1))) (some (.d (.int l.2))) (some (.d bad0)) none a12 a13) (M1 := M6) e3 ?_
  refine w_seq (e1 := envM ns (q0 :: r0) a5 a6 a7 (some (.d (.int l.1))) (some (.d (.int l.2))) (some (.d bad)) none a12 a13) (M1 := M6) e4 ?_
  have hk : ((q0 :: r0).map encS).length + 1 ≤ 16777216 := by
    rw [List.length_map]
    omega
  refine w_seq (e1 := envM ns (q0 :: r0) a5 a6 a7 (some (.d (.int l.1))) (some (.d (.int l.2))) (some (.d bad)) (some (.d (.lst ([(D.tup ((q0 :: r0).map encS ++ [bad]), D.tup [.str "item", .int ((q0 :: r0).length : Nat)]), (.tup [], .tup [.str "item", .non]), (.non, .tup [.str "item", .non]), (.tup [.tup [.int 1, .int 1]], .tup [.str "item", .int 0]), (.lst rows13, .tup [.str "many", .int 12])].map encC)))) a12 a13) (M1 := M6) ?_ ?_
  · have hr := rows_ok (envM ns (q0 :: r0) a5 a6 a7 (some (.d (.int l.1))) (some (.d (.int l.2))) (some (.d bad)) none a12 a13) rfl M6
    generalize hps : (q0 :: r0) = ps at *
    generalize hl : ps.map encS = pl at *
    have hlen2 : ((pl.length : Nat) : Int) = ps.length := by rw [← hl, List.length_map]
    simp [hr, hl, hk, hlen2, encC]
  refine w_seq (e1 := envM ns (q0 :: r0) a5 a6 a7 (some (.d (.int l.1))) (some (.d (.int l.2))) (some (.d bad)) (some (.d (.lst ([(D.tup ((q0 :: r0).map encS ++ [bad]), D.tup [.str "item", .int ((q0 :: r0).length : Nat)]), (.tup [], .tup [.str "item", .non]), (.non, .tup [.str "item", .non]), (.tup [.tup [.int 1, .int 1]], .tup [.str "item", .int 0]), (.lst rows13, .tup [.str "many", .int 12]), (.tup [.tup [.int 0, .int 2], .tup [.int 3, .int 1]], .tup [.str "item", .int 1]), (.tup [.tup [.int 0, .int 2], .tup [.int 4, .int 3], .tup [.int 4, .int 1]], .tup [.str "item", .int 2])].map encC)))) a12 a13) (M1 := M6) (by simp [encC]) ?_
  refine ⟨_, _, checks_ok (by show 7 ≤ 16777216; decide) ?_ _ _ _ _ _ _ _ _ _ _ _ _ _ _ _, ?_⟩
  · intro c hc
    simp only [List.mem_cons, List.not_mem_nil, or_false] at hc
    rcases hc with rfl | rfl | rfl | rfl | rfl | rfl | rfl
    · exact ⟨hbad, _, _, rfl, .inl rfl, .inr ⟨_, rfl⟩⟩
    · exact ⟨refd_nil, _, _, rfl, .inl rfl, .inl rfl⟩
    · exact ⟨refd_none, _, _, rfl, .inl rfl, .inl rfl⟩
    · exact ⟨refd_11, _, _, rfl, .inl rfl, .inr ⟨_, rfl⟩⟩
    · exact ⟨refd_13, _, _, rfl, .inr rfl, .inr ⟨_, rfl⟩⟩
    · exact ⟨refd_23, _, _, rfl, .inl rfl, .inr ⟨_, rfl⟩⟩
    · exact ⟨refd_44, _, _, rfl, .inl rfl, .inr ⟨_, rfl⟩⟩
  · obtain ⟨b, c, d, _, rfl⟩ := hM6
    exact ⟨[], x_finishA (M0 := []) (M1 := []) (J := [rowO ns b c d]) _ rfl rfl⟩
end Wk00
set_option Elab.async false
set_option linter.all false
set_option maxRecDepth 100000
set_option maxHeartbeats 0
/-! The law k00_whole_ladders: the end. -/
namespace Wk00
open PySem PySem.Spec PyProof.Rows L2 Vl Vx
theorem lawFd {K : PySem.W.Frag} {mg : Str → Option Value} {base : Heap} (z : Ax K mg base) {fa : Addr} (hfa : mg ("law" : Str) = some (.ref fa)) : ∃ fd : FuncData, (∀ (s : Shared) (u : Value), BindsTo s fd ⟨[u], []⟩ [("script", u)]) ∧
    ∀ (w : World) (base : Heap), K.In base → base.Ns mainGlobals mg → FnV PySem.Challenge.pw_hammerkept_k00_whole_ladders w K mg base 9 fa fd ["script"] p_law := by
  obtain ⟨fd, D⟩ := z.c.d.def_ 16 rfl
  have e := hfa.symm.trans (g_law z)
  cases e
  have b := FunD.bindsA (ps := ["script"]) D fun _ _ _ _ _ _ us hl => match us, hl with | [_], _ => rfl
  exact ⟨fd, fun s u => b s [u] rfl, fun w base X G => fnV_D D sc_law (d_law ⟨z.c, X, G⟩)⟩
end Wk00
open PySem PySem.W PySem.Calls PyProof.Rows
theorem PySem.Challenge.cw_hammerkept_k00_whole_ladders_holds : PySem.Challenge.rw_hammerkept_k00_whole_ladders.Holds := by
  w_on; o_law
  refine HandSHeadRun.head_any (r := OpenLaw.row PySem.Challenge.rw_hammerkept_k00_whole_ladders) (q := view (OpenLaw.row PySem.Challenge.rw_hammerkept_k00_whole_ladders).prog [26]) (H := Wk00.hk) (ob := Wk00.ob) (M := 3000) (loose := Wk00.loose) (d := HandSHeadRun.topDef (OpenLaw.row PySem.Challenge.rw_hammerkept_k00_whole_ladders).prog 26) (kwd := []) Wk00.ob_eq
    (by kernel_rfl) (fun s => by kernel_rfl) Wk00.run (by kernel_rfl) (by kernel_rfl) (by kernel_rfl) (by rfl) (by first | assumption | decide +kernel) (by decide +kernel) ⟨rfl, rfl, rfl, rfl, rfl, by decide +kernel⟩ ?hw ?hc
  case hw => w_witness2
  case hc =>
    refine Vl.end_walk (l := PySem.Challenge.rw_hammerkept_k00_whole_ladders) (n := 63) (k := 9) (x := "script") rfl (by decide) (by kernel_rfl) ⟨rfl, by decide, by decide⟩ ?F
    intro w mg fa h Y G hmg0
    obtain ⟨K, KX, c⟩ := Y
    have hmg : mg ("law" : PySem.Str) = some (.ref fa) := by
      have e : (HandSHeadRun.topDef (OpenLaw.row PySem.Challenge.rw_hammerkept_k00_whole_ladders).prog 26).name = ("law" : PySem.Str) := by kernel_rfl
      rw [← e]
      exact hmg0
    obtain ⟨fd, hb, hF⟩ := Wk00.lawFd ⟨c, KX, G⟩ hmg
    exact ⟨K, fd, Wk00.p_law, KX, hb, fun ns _ => Wk00.law_ok ns, hF w⟩
