import PyProof.Rows.All
import Wide.All
import OpenK.AllK
import Wide.FinOn
import HandS.ForMost
import HandS.ForExc
import HandS.Style
import HandS.IsInst
import HandS.SortInts
import HandS.Conv
import HandS.SetFor
import HandS.Strs
import HandS.Deep
import KE.SortData
import HandS.Iter
import KE.DataCmp
import PySem.Challenge.RW_newhighs_k05_whole_numbered
set_option Elab.async false
set_option linter.all false
set_option maxRecDepth 100000
set_option maxHeartbeats 4000000
/-! The data layer, 1: data, results, the relation of values to data, expressions. -/
namespace DL
open PySem L2

/-! ### data and results -/
inductive D where
  | non
  | bl (b : Bool)
  | int (i : Int)
  | str (x : Str)
  | lst (ds : List D)
  | tup (ds : List D)
  | scr (ns : List Int)
  | obj (c : Str) (ns : List Str) (ds : List D)
  | opq (v : V)

inductive R (α : Type) where
  | ok (a : α)
  | err (c : Str)
  | bad

namespace R
def bind {α β : Type} (r : R α) (f : α → R β) : R β :=
  match r with
  | .ok a => f a
  | .err c => .err c
  | .bad => .bad
def map {α β : Type} (f : α → β) (r : R α) : R β := r.bind fun a => .ok (f a)
@[simp] theorem bind_ok {α β : Type} (a : α) (f : α → R β) : (R.ok a).bind f = f a := id rfl
@[simp] theorem bind_err {α β : Type} (c : Str) (f : α → R β) : (R.err c).bind f = .err c := id rfl
@[simp] theorem bind_bad {α β : Type} (f : α → R β) : (R.bad : R α).bind f = .bad := id rfl
@[simp] theorem map_ok {α β : Type} (a : α) (f : α → β) : (R.ok a).map f = .ok (f a) := id rfl
@[simp] theorem map_err {α β : Type} (c : Str) (f : α → β) : (R.err c).map f = .err c := id rfl
@[simp] theorem map_bad {α β : Type} (f : α → β) : (R.bad : R α).map f = .bad := id rfl
end R

/-! ### heaps: F the frozen part, H the whole -/
structure Stp (F H F2 H2 : Hp) : Prop where
  h : Same H H2
  f : Same F F2
  fh : Same F2 H2
  old : ∀ a, H a ≠ none → F2 a = F a
theorem same_ne {H H2 : Hp} (e : Same H H2) {a : Addr} (h : H a ≠ none) : H2 a ≠ none := by
  cases q : H a with
  | none => exact absurd q h
  | some o => rw [e a o q]; exact fun z => nomatch z
theorem Stp.refl {F H : Hp} (e : Same F H) : Stp F H F H := ⟨Same.refl H, Same.refl F, e, fun _ _ => rfl⟩
theorem Stp.trans {F H F1 H1 F2 H2 : Hp} (a : Stp F H F1 H1) (b : Stp F1 H1 F2 H2) : Stp F H F2 H2 :=
  ⟨a.h.trans b.h, a.f.trans b.f, b.fh, fun x hx => (b.old x (same_ne a.h hx)).trans (a.old x hx)⟩
theorem same_upd {H : Hp} {p : Addr} {o : HO} (h : H p = none) : Same H (upd H p o) := fun b x e => by
  rw [upd_ne (ne_of_none e h)]
  exact e
theorem same_upd2 {F H : Hp} {p : Addr} {o : HO} (e : Same F H) (h : F p = none) : Same F (upd H p o) := fun b x q => by
  rw [upd_ne (ne_of_none q h)]
  exact e b x q
theorem same_both {F H : Hp} {p : Addr} {o : HO} (e : Same F H) : Same (upd F p o) (upd H p o) := fun b x q => by
  by_cases hb : b = p
  · subst hb
    rw [upd_same] at q ⊢
    exact q
  · rw [upd_ne hb] at q ⊢
    exact e b x q
theorem Stp.new {F H : Hp} {p : Addr} {o : HO} (e : Same F H) (h : H p = none) : Stp F H (upd F p o) (upd H p o) :=
  ⟨same_upd h, same_upd (Same.free e h), same_both e, fun a ha => upd_ne fun z => ha (z ▸ h)⟩
theorem Stp.out {F H : Hp} {p : Addr} {o : HO} (e : Same F H) (h : H p = none) : Stp F H F (upd H p o) :=
  ⟨same_upd h, Same.refl F, same_upd2 e (Same.free e h), fun _ _ => rfl⟩
/-- a new object that stands in H2 alone is frozen -/
theorem Stp.freeze {F H F2 H2 : Hp} {p : Addr} {o : HO} (s : Stp F H F2 H2) (h : H p = none) (h2 : F2 p = none) (e : H2 p = some o) : Stp F H (upd F2 p o) H2 :=
  ⟨s.h, s.f.trans (same_upd h2), fun b x q => by
    by_cases hb : b = p
    · subst hb
      rw [upd_same] at q
      rw [e]; exact q
    · rw [upd_ne hb] at q
      exact s.fh b x q, fun a ha => (upd_ne (show a ≠ p from fun z => ha (by rw [z]; exact h))).trans (s.old a ha)⟩

/-! ### a value stands for data -/
mutual
inductive Rp (K : PySem.W.Frag) (mg : Str → Option Value) (F : Hp) : V → D → Prop
  | non : Rp K mg F .non .non
  | bl (b : Bool) : Rp K mg F (.bl b) (.bl b)
  | int (i : Int) : Rp K mg F (.int i) (.int i)
  | str (x : Str) : Rp K mg F (.str x) (.str x)
  | lst {a : Addr} {xs : List V} {ds : List D} : F a = some (.lst xs) → Rps K mg F xs ds → Rp K mg F (.ref a) (.lst ds)
  | tup {a : Addr} {xs : List V} {ds : List D} : F a = some (.tup xs) → Rps K mg F xs ds → Rp K mg F (.ref a) (.tup ds)
  | scr {a : Addr} {ns : List Int} : SqL K F a (ns.map V.int) → Rp K mg F (.ref a) (.scr ns)
  | obj {a C dx : Addr} {fs : List (Str × V)} {c : Str} {ds : List D} : mg c = some (.ref C) → F a = some (.ins C dx fs) → Rps K mg F (fs.map (·.2)) ds → Rp K mg F (.ref a) (.obj c (fs.map (·.1)) ds)
  | opq (v : V) : Rp K mg F v (.opq v)
inductive Rps (K : PySem.W.Frag) (mg : Str → Option Value) (F : Hp) : List V → List D → Prop
  | nil : Rps K mg F [] []
  | cons {v : V} {vs : List V} {d : D} {ds : List D} : Rp K mg F v d → Rps K mg F vs ds → Rps K mg F (v :: vs) (d :: ds)
end
section
variable {K : PySem.W.Frag} {mg : Str → Option Value} {F F' H : Hp}
mutual
theorem Rp.mono (e : Same F F') : ∀ {v : V} {d : D}, Rp K mg F v d → Rp K mg F' v d
  | _, _, .non => .non
  | _, _, .bl b => .bl b
  | _, _, .int i => .int i
  | _, _, .str x => .str x
  | _, _, .lst h r => .lst (e _ _ h) (Rps.mono e r)
  | _, _, .tup h r => .tup (e _ _ h) (Rps.mono e r)
  | _, _, .scr h => .scr (e.seq h)
  | _, _, .obj c h r => .obj c (e _ _ h) (Rps.mono e r)
  | _, _, .opq v => .opq v
theorem Rps.mono (e : Same F F') : ∀ {vs : List V} {ds : List D}, Rps K mg F vs ds → Rps K mg F' vs ds
  | _, _, .nil => .nil
  | _, _, .cons h r => .cons (Rp.mono e h) (Rps.mono e r)
end
theorem Rps.length : ∀ {vs : List V} {ds : List D}, Rps K mg F vs ds → vs.length = ds.length
  | _, _, .nil => rfl
  | _, _, .cons _ r => congrArg (· + 1) (Rps.length r)
theorem Rps.get : ∀ {vs : List V} {ds : List D} {i : Nat} {d : D}, Rps K mg F vs ds → ds[i]? = some d → ∃ v, vs[i]? = some v ∧ Rp K mg F v d
  | _, _, _, _, .nil, e => by simp at e
  | _, _, 0, _, .cons h _, e => by simp at e; subst e; exact ⟨_, rfl, h⟩
  | _, _, i + 1, d, .cons _ r, e => by
    obtain ⟨v, h1, h2⟩ := Rps.get (i := i) r (by simpa using e)
    exact ⟨v, by simpa using h1, h2⟩
theorem Rps.getV : ∀ {vs : List V} {ds : List D} {i : Nat} {v : V}, Rps K mg F vs ds → vs[i]? = some v → ∃ d, ds[i]? = some d ∧ Rp K mg F v d
  | _, _, _, _, .nil, e => by simp at e
  | _, _, 0, _, .cons h _, e => by simp at e; subst e; exact ⟨_, rfl, h⟩
  | _, _, i + 1, d, .cons _ r, e => by
    obtain ⟨v, h1, h2⟩ := Rps.getV (i := i) r (by simpa using e)
    exact ⟨v, by simpa using h1, h2⟩
theorem Rps.append : ∀ {vs ws : List V} {ds es : List D}, Rps K mg F vs ds → Rps K mg F ws es → Rps K mg F (vs ++ ws) (ds ++ es)
  | _, _, _, _, .nil, s => s
  | _, _, _, _, .cons h r, s => .cons h (Rps.append r s)
theorem Rps.take : ∀ {vs : List V} {ds : List D} (n : Nat), Rps K mg F vs ds → Rps K mg F (vs.take n) (ds.take n)
  | _, _, 0, _ => .nil
  | _, _, _ + 1, .nil => .nil
  | _, _, n + 1, .cons h r => .cons h (Rps.take n r)
theorem Rps.drop : ∀ {vs : List V} {ds : List D} (n : Nat), Rps K mg F vs ds → Rps K mg F (vs.drop n) (ds.drop n)
  | _, _, 0, r => r
  | _, _, _ + 1, .nil => .nil
  | _, _, n + 1, .cons _ r => Rps.drop n r
theorem Rps.reverse : ∀ {vs : List V} {ds : List D}, Rps K mg F vs ds → Rps K mg F vs.reverse ds.reverse
  | _, _, .nil => .nil
  | _, _, .cons h r => by
    rw [List.reverse_cons, List.reverse_cons]
    exact Rps.append (Rps.reverse r) (.cons h .nil)
theorem Rps.rep {vs : List V} {ds : List D} (r : Rps K mg F vs ds) : ∀ n : Nat, Rps K mg F (List.replicate n vs).flatten (List.replicate n ds).flatten
  | 0 => .nil
  | n + 1 => by
    rw [List.replicate_succ, List.replicate_succ, List.flatten_cons, List.flatten_cons]
    exact r.append (Rps.rep r n)
/-- ints -/
theorem Rps.ints : ∀ {vs : List V} {ns : List Int}, Rps K mg F vs (ns.map D.int) → vs = ns.map V.int
  | _, [], .nil => rfl
  | _, n :: ns, .cons h r => by
    cases h
    rw [Rps.ints r]; rfl
theorem Rps.ofInts : ∀ (ns : List Int), Rps K mg F (ns.map V.int) (ns.map D.int)
  | [] => .nil
  | n :: ns => .cons (.int n) (Rps.ofInts ns)
theorem Rps.bls : ∀ {vs : List V} {bs : List Bool}, Rps K mg F vs (bs.map D.bl) → vs = bs.map V.bl
  | _, [], .nil => rfl
  | _, n :: ns, .cons h r => by
    cases h
    rw [Rps.bls r]; rfl
end

/-! ### what a result wants -/
section
variable (K : PySem.W.Frag) (mg : Str → Option Value) (E : XK)
def Fin (F H : Hp) (Q : VK) : R D → Prop
  | .ok d => ∀ v F2 H2, Stp F H F2 H2 → Rp K mg F2 v d → Q v H2
  | .err c => ∀ C H2, Same H H2 → mg c = some (.ref C) → E (.ref C) none H2
  | .bad => False
def FinN (F H : Hp) (Q : VK) : R (List D) → Prop
  | .ok ds => ∀ p vs F2 H2, Stp F H F2 H2 → H p = none → F2 p = none → H2 p = some (.lst vs) → Rps K mg F2 vs ds → Q (.ref p) H2
  | .err c => ∀ C H2, Same H H2 → mg c = some (.ref C) → E (.ref C) none H2
  | .bad => False
def FinA (F H : Hp) (Q : List V → Hp → Prop) : R (List D) → Prop
  | .ok ds => ∀ vs F2 H2, Stp F H F2 H2 → Rps K mg F2 vs ds → Q vs H2
  | .err c => ∀ C H2, Same H H2 → mg c = some (.ref C) → E (.ref C) none H2
  | .bad => False
def FinT (F H : Hp) (Q : Bool → Hp → Prop) : R Bool → Prop
  | .ok b => ∀ F2 H2, Stp F H F2 H2 → Q b H2
  | .err c => ∀ C H2, Same H H2 → mg c = some (.ref C) → E (.ref C) none H2
  | .bad => False
end
abbrev Env := List (Option D)
structure EnvR (K : PySem.W.Frag) (mg : Str → Option Value) (F : Hp) (σ : L2.St) (ρ : Env) : Prop where
  len : σ.length = ρ.length
  var : ∀ (i : Nat) d, ρ[i]? = some (some d) → ∃ v, σ[i]? = some (some v) ∧ Rp K mg F v d
section
variable {K : PySem.W.Frag} {mg : Str → Option Value} {E : XK} {F F1 H H1 : Hp} {Q Q' : VK} {σ : L2.St} {ρ : Env}
theorem EnvR.mono (e : Same F F1) (h : EnvR K mg F σ ρ) : EnvR K mg F1 σ ρ := ⟨h.len, fun i d q => by
  obtain ⟨v, h1, h2⟩ := h.var i d q
  exact ⟨v, h1, h2.mono e⟩⟩
theorem EnvR.set {i : Nat} {v : V} {d : D} (h : EnvR K mg F σ ρ) (r : Rp K mg F v d) : EnvR K mg F (σ.set i (some v)) (ρ.set i (some d)) := ⟨by rw [List.length_set, List.length_set, h.len], fun j e q => by
  by_cases hj : i = j
  · subst hj
    by_cases hi : i < ρ.length
    · rw [List.getElem?_set_self hi] at q
      cases q
      exact ⟨v, List.getElem?_set_self (by rw [h.len]; exact hi), r⟩
    · rw [List.getElem?_eq_none (by simpa using hi)] at q
      cases q
  · rw [List.getElem?_set_ne hj] at q ⊢
    exact h.var j e q⟩
theorem EnvR.unset {i : Nat} (h : EnvR K mg F σ ρ) : EnvR K mg F (σ.set i none) (ρ.set i none) := ⟨by rw [List.length_set, List.length_set, h.len], fun j e q => by
  by_cases hj : i = j
  · subst hj
    by_cases hi : i < ρ.length
    · rw [List.getElem?_set_self hi] at q
      cases q
    · rw [List.getElem?_eq_none (by simpa using hi)] at q
      cases q
  · rw [List.getElem?_set_ne hj] at q ⊢
    exact h.var j e q⟩
theorem Fin.step {r : R D} (s : Stp F H F1 H1) (h : Fin K mg E F H Q r) : Fin K mg E F1 H1 Q r := by
  cases r with
  | ok d => exact fun v F2 H2 s2 hr => h v F2 H2 (s.trans s2) hr
  | err c => exact fun C H2 e m => h C H2 (s.h.trans e) m
  | bad => exact h
theorem FinN.step {r : R (List D)} (s : Stp F H F1 H1) (h : FinN K mg E F H Q r) : FinN K mg E F1 H1 Q r := by
  cases r with
  | ok d => exact fun p vs F2 H2 s2 hp hf hh hr => h p vs F2 H2 (s.trans s2) (s.h.free hp) hf hh hr
  | err c => exact fun C H2 e m => h C H2 (s.h.trans e) m
  | bad => exact h
theorem FinA.step {QA : List V → Hp → Prop} {r : R (List D)} (s : Stp F H F1 H1) (h : FinA K mg E F H QA r) : FinA K mg E F1 H1 QA r := by
  cases r with
  | ok d => exact fun v F2 H2 s2 hr => h v F2 H2 (s.trans s2) hr
  | err c => exact fun C H2 e m => h C H2 (s.h.trans e) m
  | bad => exact h
theorem FinT.step {QT : Bool → Hp → Prop} {r : R Bool} (s : Stp F H F1 H1) (h : FinT mg E F H QT r) : FinT mg E F1 H1 QT r := by
  cases r with
  | ok d => exact fun F2 H2 s2 => h F2 H2 (s.trans s2)
  | err c => exact fun C H2 e m => h C H2 (s.h.trans e) m
  | bad => exact h
/-- a new list is frozen -/
theorem Fin.ofN {r : R (List D)} (h : Fin K mg E F H Q (r.map D.lst)) : FinN K mg E F H Q r := by
  cases r with
  | ok ds => exact fun p vs F2 H2 s hp hf hh hr => h (.ref p) (upd F2 p (.lst vs)) H2 (s.freeze hp hf hh) (.lst upd_same (hr.mono (same_upd hf)))
  | err c => exact h
  | bad => exact h
end

/-! ### readings -/
section
variable (K : PySem.W.Frag) (mg : Str → Option Value) (E : XK)
def tX (f : Env → R D) : TE := fun σ H Q => ∃ F ρ, Same F H ∧ EnvR K mg F σ ρ ∧ Fin K mg E F H Q (f ρ)
def tN (f : Env → R (List D)) : TE := fun σ H Q => ∃ F ρ, Same F H ∧ EnvR K mg F σ ρ ∧ FinN K mg E F H Q (f ρ)
def tXs (f : Env → R (List D)) : TA := fun σ H Q => ∃ F ρ, Same F H ∧ EnvR K mg F σ ρ ∧ FinA K mg E F H Q (f ρ)
def tXT (f : Env → R Bool) : TT := fun σ H Q => ∃ F ρ, Same F H ∧ EnvR K mg F σ ρ ∧ FinT mg E F H Q (f ρ)
end
abbrev PX (X : Cx) (E : XK) (e : Expr) (f : Env → R D) : Prop := PE X e (tX X.K X.mg E f)
abbrev PN (X : Cx) (E : XK) (e : Expr) (f : Env → R (List D)) : Prop := PE X e (tN X.K X.mg E f)
abbrev PXs (X : Cx) (E : XK) (es : List Expr) (f : Env → R (List D)) : Prop := PA X es (tXs X.K X.mg E f)
abbrev PXT (X : Cx) (E : XK) (e : Expr) (f : Env → R Bool) : Prop := PT X e (tXT X.K X.mg E f)
abbrev PXW (X : Cx) (E : XK) (e : Expr) (f : Env → R Bool) : Prop := PW X e (tXT X.K X.mg E f)
theorem pe_weak {X : Cx} {e : Expr} {t t' : TE} (h : PE X e t) (w : ∀ σ H Q, t' σ H Q → t σ H Q) : PE X e t' := ⟨fun pins s σ H Q I q => h.run pins s σ H Q I (w σ H Q q)⟩
theorem pt_weak {X : Cx} {e : Expr} {t t' : TT} (h : PT X e t) (w : ∀ σ H Q, t' σ H Q → t σ H Q) : PT X e t' := ⟨fun pins s σ H Q I q => h.run pins s σ H Q I (w σ H Q q)⟩
theorem pw_weak {X : Cx} {e : Expr} {t t' : TT} (h : PW X e t) (w : ∀ σ H Q, t' σ H Q → t σ H Q) : PW X e t' := ⟨fun wh pins s σ H Q I q => h.run wh pins s σ H Q I (w σ H Q q)⟩
theorem pa_weak {X : Cx} {e : List Expr} {t t' : TA} (h : PA X e t) (w : ∀ σ H Q, t' σ H Q → t σ H Q) : PA X e t' := ⟨fun pos pins s σ H Q I q => h.run pos pins s σ H Q I (w σ H Q q)⟩
theorem ps_weak {X : Cx} {e : Stmt} {t t' : TS} (h : PS X e t) (w : ∀ Dn σ H, t' Dn σ H → t Dn σ H) : PS X e t' := ⟨fun pins s σ H Dn I q => h.run pins s σ H Dn I (w Dn σ H q)⟩
theorem pss_weak {X : Cx} {e : List Stmt} {t t' : TS} (h : PSs X e t) (w : ∀ Dn σ H, t' Dn σ H → t Dn σ H) : PSs X e t' := ⟨fun pins s σ H Dn I q => h.run pins s σ H Dn I (w Dn σ H q)⟩

section
variable {K : PySem.W.Frag} {mg : Str → Option Value} {E : XK} {F F1 H H1 : Hp} {Q Q' : VK} {σ : L2.St} {ρ : Env}
theorem tX_step {f : Env → R D} {g : D → R D} (fh : Same F H) (en : EnvR K mg F σ ρ) (fin : Fin K mg E F H Q ((f ρ).bind g))
    (k : ∀ v d F1 H1, Stp F H F1 H1 → Rp K mg F1 v d → Fin K mg E F1 H1 Q (g d) → Q' v H1) : tX K mg E f σ H Q' := by
  refine ⟨F, ρ, fh, en, ?_⟩
  cases hf : f ρ with
  | ok d => rw [hf] at fin; exact fun v F1 H1 st rp => k v d F1 H1 st rp (Fin.step st fin)
  | err c => rw [hf] at fin; exact fin
  | bad => rw [hf] at fin; exact fin
theorem tX_stepN {f : Env → R D} {g : D → R (List D)} (fh : Same F H) (en : EnvR K mg F σ ρ) (fin : FinN K mg E F H Q ((f ρ).bind g))
    (k : ∀ v d F1 H1, Stp F H F1 H1 → Rp K mg F1 v d → FinN K mg E F1 H1 Q (g d) → Q' v H1) : tX K mg E f σ H Q' := by
  refine ⟨F, ρ, fh, en, ?_⟩
  cases hf : f ρ with
  | ok d => rw [hf] at fin; exact fun v F1 H1 st rp => k v d F1 H1 st rp (FinN.step st fin)
  | err c => rw [hf] at fin; exact fin
  | bad => rw [hf] at fin; exact fin
theorem tX_stepA {QA : List V → Hp → Prop} {f : Env → R D} {g : D → R (List D)} (fh : Same F H) (en : EnvR K mg F σ ρ) (fin : FinA K mg E F H QA ((f ρ).bind g))
    (k : ∀ v d F1 H1, Stp F H F1 H1 → Rp K mg F1 v d → FinA K mg E F1 H1 QA (g d) → Q' v H1) : tX K mg E f σ H Q' := by
  refine ⟨F, ρ, fh, en, ?_⟩
  cases hf : f ρ with
  | ok d => rw [hf] at fin; exact fun v F1 H1 st rp => k v d F1 H1 st rp (FinA.step st fin)
  | err c => rw [hf] at fin; exact fin
  | bad => rw [hf] at fin; exact fin
theorem tX_stepT {QT : Bool → Hp → Prop} {f : Env → R D} {g : D → R Bool} (fh : Same F H) (en : EnvR K mg F σ ρ) (fin : FinT mg E F H QT ((f ρ).bind g))
    (k : ∀ v d F1 H1, Stp F H F1 H1 → Rp K mg F1 v d → FinT mg E F1 H1 QT (g d) → Q' v H1) : tX K mg E f σ H Q' := by
  refine ⟨F, ρ, fh, en, ?_⟩
  cases hf : f ρ with
  | ok d => rw [hf] at fin; exact fun v F1 H1 st rp => k v d F1 H1 st rp (FinT.step st fin)
  | err c => rw [hf] at fin; exact fin
  | bad => rw [hf] at fin; exact fin
theorem tXs_step {QA : List V → Hp → Prop} {f : Env → R (List D)} {g : List D → R D} (fh : Same F H) (en : EnvR K mg F σ ρ) (fin : Fin K mg E F H Q ((f ρ).bind g))
    (k : ∀ v d F1 H1, Stp F H F1 H1 → Rps K mg F1 v d → Fin K mg E F1 H1 Q (g d) → QA v H1) : tXs K mg E f σ H QA := by
  refine ⟨F, ρ, fh, en, ?_⟩
  cases hf : f ρ with
  | ok d => rw [hf] at fin; exact fun v F1 H1 st rp => k v d F1 H1 st rp (Fin.step st fin)
  | err c => rw [hf] at fin; exact fin
  | bad => rw [hf] at fin; exact fin
theorem tXs_stepN {QA : List V → Hp → Prop} {f : Env → R (List D)} {g : List D → R (List D)} (fh : Same F H) (en : EnvR K mg F σ ρ) (fin : FinN K mg E F H Q ((f ρ).bind g))
    (k : ∀ v d F1 H1, Stp F H F1 H1 → Rps K mg F1 v d → FinN K mg E F1 H1 Q (g d) → QA v H1) : tXs K mg E f σ H QA := by
  refine ⟨F, ρ, fh, en, ?_⟩
  cases hf : f ρ with
  | ok d => rw [hf] at fin; exact fun v F1 H1 st rp => k v d F1 H1 st rp (FinN.step st fin)
  | err c => rw [hf] at fin; exact fin
  | bad => rw [hf] at fin; exact fin
theorem tXs_stepA {QA QA' : List V → Hp → Prop} {f : Env → R (List D)} {g : List D → R (List D)} (fh : Same F H) (en : EnvR K mg F σ ρ) (fin : FinA K mg E F H QA ((f ρ).bind g))
    (k : ∀ v d F1 H1, Stp F H F1 H1 → Rps K mg F1 v d → FinA K mg E F1 H1 QA (g d) → QA' v H1) : tXs K mg E f σ H QA' := by
  refine ⟨F, ρ, fh, en, ?_⟩
  cases hf : f ρ with
  | ok d => rw [hf] at fin; exact fun v F1 H1 st rp => k v d F1 H1 st rp (FinA.step st fin)
  | err c => rw [hf] at fin; exact fin
  | bad => rw [hf] at fin; exact fin
theorem tXT_step {QT : Bool → Hp → Prop} {f : Env → R Bool} {g : Bool → R D} (fh : Same F H) (en : EnvR K mg F σ ρ) (fin : Fin K mg E F H Q ((f ρ).bind g))
    (k : ∀ b F1 H1, Stp F H F1 H1 → Fin K mg E F1 H1 Q (g b) → QT b H1) : tXT K mg E f σ H QT := by
  refine ⟨F, ρ, fh, en, ?_⟩
  cases hf : f ρ with
  | ok d => rw [hf] at fin; exact fun F1 H1 st => k d F1 H1 st (Fin.step st fin)
  | err c => rw [hf] at fin; exact fin
  | bad => rw [hf] at fin; exact fin
theorem tXT_stepT {QT QT' : Bool → Hp → Prop} {f : Env → R Bool} {g : Bool → R Bool} (fh : Same F H) (en : EnvR K mg F σ ρ) (fin : FinT mg E F H QT ((f ρ).bind g))
    (k : ∀ b F1 H1, Stp F H F1 H1 → FinT mg E F1 H1 QT (g b) → QT' b H1) : tXT K mg E f σ H QT' := by
  refine ⟨F, ρ, fh, en, ?_⟩
  cases hf : f ρ with
  | ok d => rw [hf] at fin; exact fun F1 H1 st => k d F1 H1 st (FinT.step st fin)
  | err c => rw [hf] at fin; exact fin
  | bad => rw [hf] at fin; exact fin
end
end DL
/-! The data layer, 2: expressions. -/
namespace DL
open PySem L2

/-! ### meanings -/
def eVar (i : Nat) : Env → R D := fun ρ => match ρ[i]? with
  | some (some d) => .ok d
  | _ => .bad
def eC (d : D) : Env → R D := fun _ => .ok d
def eUn (o : D → R D) (f : Env → R D) : Env → R D := fun ρ => (f ρ).bind o
def eOp (o : D → D → R D) (f g : Env → R D) : Env → R D := fun ρ => (f ρ).bind fun x => (g ρ).bind fun y => o x y
def eOpN (o : D → D → R (List D)) (f g : Env → R D) : Env → R (List D) := fun ρ => (f ρ).bind fun x => (g ρ).bind fun y => o x y
def eUnN (o : D → R (List D)) (f : Env → R D) : Env → R (List D) := fun ρ => (f ρ).bind o
def aNil : Env → R (List D) := fun _ => .ok []
def aCons (f : Env → R D) (fs : Env → R (List D)) : Env → R (List D) := fun ρ => (f ρ).bind fun x => (fs ρ).bind fun xs => .ok (x :: xs)
def eCall (o : List D → R D) (fs : Env → R (List D)) : Env → R D := fun ρ => (fs ρ).bind o
def eCallN (o : List D → R (List D)) (fs : Env → R (List D)) : Env → R (List D) := fun ρ => (fs ρ).bind o
def eNew (f : Env → R (List D)) : Env → R D := fun ρ => (f ρ).map D.lst
def eTup (fs : Env → R (List D)) : Env → R D := fun ρ => (fs ρ).bind fun ds => if ds.length ≤ 100000 then .ok (.tup ds) else .bad
def eLst (fs : Env → R (List D)) : Env → R (List D) := fun ρ => (fs ρ).bind fun ds => if ds.length ≤ 100000 then .ok ds else .bad
def asB : D → R Bool
  | .bl b => .ok b
  | _ => .bad
/-- a value as a test -/
def bE (f : Env → R D) : Env → R Bool := fun ρ => (f ρ).bind asB
def bNot (f : Env → R Bool) : Env → R Bool := fun ρ => (f ρ).bind fun b => .ok (!b)
def bAnd (f g : Env → R Bool) : Env → R Bool := fun ρ => (f ρ).bind fun b => if b then g ρ else .ok false
def bOr (f g : Env → R Bool) : Env → R Bool := fun ρ => (f ρ).bind fun b => if b then .ok true else g ρ
def eIf (t : Env → R Bool) (f g : Env → R D) : Env → R D := fun ρ => (t ρ).bind fun b => if b then f ρ else g ρ
def eAnd (f g : Env → R D) : Env → R D := fun ρ => (f ρ).bind fun x => (asB x).bind fun b => if b then g ρ else .ok (.bl false)
def eOr (f g : Env → R D) : Env → R D := fun ρ => (f ρ).bind fun x => (asB x).bind fun b => if b then .ok (.bl true) else g ρ
def oNot (x : D) : R D := (asB x).bind fun b => .ok (.bl !b)
def eChain (o o' : D → D → R D) (f g h : Env → R D) : Env → R D := fun ρ => (f ρ).bind fun x => (g ρ).bind fun y => (o x y).bind fun z => (asB z).bind fun b =>
  if b then (h ρ).bind fun u => o' y u else .ok (.bl false)

/-! ### operations -/
def mulOk (i j : Int) : Prop := (-(2 ^ 64) < i ∧ i < 2 ^ 64) ∨ (-(2 ^ 64) < j ∧ j < 2 ^ 64)
instance (i j : Int) : Decidable (mulOk i j) := by unfold mulOk; infer_instance
def oAdd : D → D → R D
  | .int i, .int j => .ok (.int (i + j))
  | .lst a, .lst b => if a.length + b.length ≤ 100000 then .ok (.lst (a ++ b)) else .bad
  | _, _ => .bad
def oCat : D → D → R (List D)
  | .lst a, .lst b => if a.length + b.length ≤ 100000 then .ok (a ++ b) else .bad
  | _, _ => .bad
def oSub : D → D → R D
  | .int i, .int j => .ok (.int (i - j))
  | _, _ => .bad
def oMul : D → D → R D
  | .int i, .int j => if mulOk i j then .ok (.int (i * j)) else .bad
  | _, _ => .bad
def oRep : D → D → R (List D)
  | .lst a, .int k => if k ≤ 100000 ∧ a.length * k.toNat ≤ 100000 ∧ -100000 ≤ k then .ok (List.replicate k.toNat a).flatten else .bad
  | _, _ => .bad
def oMod : D → D → R D
  | .int i, .int j => if 0 < j then .ok (.int (i % j)) else .bad
  | _, _ => .bad
def oFdiv : D → D → R D
  | .int i, .int j => if 0 < j ∧ j < 1073741824 then .ok (.int (i / j)) else .bad
  | _, _ => .bad
def oPow : D → D → R D
  | .int i, .int j => if 0 ≤ j ∧ j ≤ 1000000 ∧ i.natAbs < 2 ^ 64 then .ok (.int (i ^ j.toNat)) else .bad
  | _, _ => .bad
def oCmp (p : Int → Int → Bool) : D → D → R D
  | .int i, .int j => .ok (.bl (p i j))
  | _, _ => .bad
abbrev oLt : D → D → R D := oCmp fun i j => decide (i < j)
abbrev oLe : D → D → R D := oCmp fun i j => decide (i ≤ j)
abbrev oGt : D → D → R D := oCmp fun i j => decide (j < i)
abbrev oGe : D → D → R D := oCmp fun i j => decide (j ≤ i)
def oNeg : D → R D
  | .int i => .ok (.int (-i))
  | _ => .bad
def isNon : D → R Bool
  | .non => .ok true
  | .opq _ => .bad
  | _ => .ok false
def oIs : D → D → R D
  | d, .non => (isNon d).bind fun b => .ok (.bl b)
  | .bl a, .bl b => .ok (.bl (decide (a = b)))
  | _, _ => .bad
def oIsNot : D → D → R D
  | d, .non => (isNon d).bind fun b => .ok (.bl !b)
  | .bl a, .bl b => .ok (.bl (!decide (a = b)))
  | _, _ => .bad
mutual
def toPy : D → Option PyData
  | .non => some .none
  | .bl b => some (.bool b)
  | .int i => some (.int i)
  | .str x => some (.str x)
  | .lst ds => (toPys ds).map .list
  | .tup ds => (toPys ds).map .tuple
  | .scr ns => some (.list (ns.map .int))
  | .obj _ _ _ => none
  | .opq _ => none
def toPys : List D → Option (List PyData)
  | [] => some []
  | d :: ds => (toPy d).bind fun p => (toPys ds).map fun ps => p :: ps
end
def eqD (x y : D) : R Bool := match toPy x, toPy y with
  | some a, some b => if SeqAt.shaped a = true ∧ SeqAt.shaped b = true then .ok (PyData.eqv a b) else .bad
  | _, _ => .bad
def oEq (x y : D) : R D := (eqD x y).bind fun b => .ok (.bl b)
def oNe (x y : D) : R D := (eqD x y).bind fun b => .ok (.bl !b)
def flatD : D → Bool
  | .non => true
  | .bl _ => true
  | .int _ => true
  | .str _ => true
  | _ => false
def eqF : D → D → Bool
  | .non, .non => true
  | .bl a, .bl b => a == b
  | .bl a, .int b => (if a then 1 else 0) == b
  | .int a, .bl b => a == (if b then 1 else 0)
  | .int a, .int b => a == b
  | .str a, .str b => a == b
  | _, _ => false
def seqD : D → Option (List D)
  | .lst ds => some ds
  | .tup ds => some ds
  | _ => none
def inD (x y : D) : R Bool := match seqD y with
  | some ds => if flatD x = true ∧ ds.all flatD = true then .ok (ds.any fun e => eqF e x) else .bad
  | none => .bad
def oIn (x y : D) : R D := (inD x y).bind fun b => .ok (.bl b)
def oNotIn (x y : D) : R D := (inD x y).bind fun b => .ok (.bl !b)
def oIx (x y : D) : R D := match seqD x, y with
  | some ds, .int i => match atI ds i with
    | some d => .ok d
    | none => .bad
  | _, _ => .bad
/-- the part of a slice -/
def pNo : Env → R (Option Int) := fun _ => .ok none
def asI : D → R Int
  | .int i => .ok i
  | _ => .bad
def pSome (f : Env → R D) : Env → R (Option Int) := fun ρ => (f ρ).bind fun x => (asI x).bind fun i => .ok (some i)
def cutD {α : Type} (xs : List α) (lo hi : Option Int) : List α := (xs.drop (HT.sIx xs.length 0 lo)).take (HT.sIx xs.length xs.length hi - HT.sIx xs.length 0 lo)
def slD (x : D) (lo hi : Option Int) : R (List D) := match x with
  | .lst ds => .ok (cutD ds lo hi)
  | .scr ns => .ok ((cutD ns lo hi).map .int)
  | _ => .bad
def eSl (f : Env → R D) (lo hi : Env → R (Option Int)) : Env → R (List D) := fun ρ => (f ρ).bind fun x => (lo ρ).bind fun l => (hi ρ).bind fun u => slD x l u
def oRev : D → R (List D)
  | .lst ds => .ok ds.reverse
  | _ => .bad
def intsOf : List D → Option (List Int)
  | [] => some []
  | .int i :: ds => (intsOf ds).map fun ns => i :: ns
  | _ :: _ => none
def blsOf : List D → Option (List Bool)
  | [] => some []
  | .bl i :: ds => (blsOf ds).map fun ns => i :: ns
  | _ :: _ => none
def oLen : List D → R D
  | [.lst ds] => .ok (.int ds.length)
  | [.tup ds] => .ok (.int ds.length)
  | [.scr ds] => .ok (.int ds.length)
  | _ => .bad
def onInts (g : List Int → R D) : List D → R D
  | [.lst ds] => match intsOf ds with
    | some ns => g ns
    | none => .bad
  | _ => .bad
def oSum : List D → R D := onInts fun ns => .ok (.int ns.sum)
def maxI : List Int → Int
  | [] => 0
  | [x] => x
  | x :: y :: r => max x (maxI (y :: r))
def minI : List Int → Int
  | [] => 0
  | [x] => x
  | x :: y :: r => min x (minI (y :: r))
def oMax : List D → R D
  | [.int i, .int j] => .ok (.int (if j > i then j else i))
  | ds => onInts (fun ns => if 0 < ns.length then .ok (.int (maxI ns)) else .bad) ds
def oMin : List D → R D
  | [.int i, .int j] => .ok (.int (if j < i then j else i))
  | ds => onInts (fun ns => if 0 < ns.length then .ok (.int (minI ns)) else .bad) ds
def oAbs : List D → R D
  | [.int i] => .ok (.int (if i < 0 then -i else i))
  | _ => .bad
def onBls (g : List Bool → R D) : List D → R D
  | [.lst ds] => match blsOf ds with
    | some ns => g ns
    | none => .bad
  | _ => .bad
def oAll : List D → R D := onBls fun bs => .ok (.bl (bs.all id))
def oAny : List D → R D := onBls fun bs => .ok (.bl (bs.any id))
def insI (x : Int) : List Int → List Int
  | [] => [x]
  | y :: r => if x ≤ y then x :: y :: r else y :: insI x r
def isort : List Int → List Int
  | [] => []
  | x :: r => insI x (isort r)
def oSorted : List D → R (List D)
  | [.lst ds] => match intsOf ds with
    | some ns => .ok ((isort ns).map D.int)
    | none => .bad
  | _ => .bad
def oList : List D → R (List D)
  | [.lst ds] => .ok ds
  | [.tup ds] => .ok ds
  | _ => .bad
def tyD : D → Option String
  | .non => some "NoneType"
  | .bl _ => some "bool"
  | .int _ => some "int"
  | .str _ => some "str"
  | .lst _ => some "list"
  | .tup _ => some "tuple"
  | _ => none
/-- isinstance(x, T), T a built-in class -/
def oIsi (T : String) (x : D) : R D := match tyD x with
  | some t => match kitB t T with
    | some b => .ok (.bl b)
    | none => .bad
  | none => .bad
def rgOk (a b : Int) : Prop := -1000000 ≤ a ∧ a ≤ 1000000 ∧ -1000000 ≤ b ∧ b ≤ 1000000
instance (i j : Int) : Decidable (rgOk i j) := by unfold rgOk; infer_instance
def rgI (a b : Int) : List Int := (List.range (b - a).toNat).map fun i => a + (i : Nat)
/-- list(range(a, b)) -/
def oRange : D → D → R (List D)
  | .int a, .int b => if rgOk a b then .ok ((rgI a b).map D.int) else .bad
  | _, _ => .bad
/-- int(b) -/
def oIntOf : List D → R D
  | [.bl b] => .ok (.int (if b then 1 else 0))
  | [.int i] => .ok (.int i)
  | _ => .bad

/-! ### the rules -/
section
variable {X : Cx} {E : XK} {a b c e : Expr} {es : List Expr} {f g h : Env → R D} {fs : Env → R (List D)} {pos : Pos}
theorem PN.toX {f : Env → R (List D)} (h : PN X E e f) : PX X E e (eNew f) := pe_weak h fun σ H Q ⟨F, ρ, fh, en, fin⟩ => ⟨F, ρ, fh, en, Fin.ofN fin⟩
theorem px_var (i : Nat) {x : Str} {pos : Pos} (hN : X.N[i]? = some x := by rfl) (hv : Vis X.env.scope x := by first | exact Or.inl rfl | exact Or.inr (Or.inl rfl) | exact Or.inr (Or.inr rfl)) (hd : (x == ("__debug__" : Str)) = false := by decide)
    (hcd : (x == ("__classdict__" : Str)) = false := by decide) : PX X E (.Name x pos) (eVar i) := pe_weak (pe_var hN hv hd hcd) fun σ H Q ⟨F, ρ, fh, en, fin⟩ => by
  unfold eVar at fin
  split at fin
  · rename_i d hd
    obtain ⟨v, h1, h2⟩ := en.var i d hd
    exact ⟨v, h1, fin v F H (Stp.refl fh) h2⟩
  · exact fin.elim
theorem px_c {v : V} {d : D} (h : PE X e (tC v)) (r : ∀ F, Rp X.K X.mg F v d) : PX X E e (eC d) := pe_weak h fun σ H Q ⟨F, ρ, fh, en, fin⟩ => fin v F H (Stp.refl fh) (r F)
theorem px_int {i j pos} : PX X E (.Constant (.int i) j pos) (eC (.int i)) := px_c pe_int fun _ => .int i
theorem px_bl {b j pos} : PX X E (.Constant (.bool b) j pos) (eC (.bl b)) := px_c pe_bl fun _ => .bl b
theorem px_non {j pos} : PX X E (.Constant .none j pos) (eC .non) := px_c pe_non fun _ => .non
theorem px_str {x j pos} : PX X E (.Constant (.str x) j pos) (eC (.str x)) := px_c pe_str fun _ => .str x
theorem px_globI {x : Str} {i : Int} {t : Tok} {pos : Pos} (hg : Gl X x) (hm : X.mg x = some (.int i t)) (hd : (x == ("__debug__" : Str)) = false := by decide) : PX X E (.Name x pos) (eC (.int i)) := px_c (v := .int i) (pe_glob hg hm ⟨t, rfl⟩ hd) fun _ => .int i

def OpD (X : Cx) (E : XK) (r : R2) (o : D → D → R D) : Prop := ∀ (F H : Hp) (v w : V) (d e : D) (Q : VK), Same F H → Rp X.K X.mg F v d → Rp X.K X.mg F w e → Fin X.K X.mg E F H Q (o d e) → r v w H Q
def OpDN (X : Cx) (E : XK) (r : R2) (o : D → D → R (List D)) : Prop := ∀ (F H : Hp) (v w : V) (d e : D) (Q : VK), Same F H → Rp X.K X.mg F v d → Rp X.K X.mg F w e → FinN X.K X.mg E F H Q (o d e) → r v w H Q
theorem tX_op {r : R2} {o : D → D → R D} (od : OpD X E r o) (σ : L2.St) (H : Hp) (Q : VK) (h : tX X.K X.mg E (eOp o f g) σ H Q) : tOp r (tX X.K X.mg E f) (tX X.K X.mg E g) σ H Q := by
  obtain ⟨F, ρ, fh, en, fin⟩ := h
  exact tX_step fh en fin fun v d F1 H1 s1 r1 fin1 => tX_step s1.fh (en.mono s1.f) fin1 fun w e F2 H2 s2 r2 fin2 => od F2 H2 v w d e Q s2.fh (r1.mono s2.f) r2 fin2
theorem tX_opN {r : R2} {o : D → D → R (List D)} (od : OpDN X E r o) (σ : L2.St) (H : Hp) (Q : VK) (h : tN X.K X.mg E (eOpN o f g) σ H Q) : tOp r (tX X.K X.mg E f) (tX X.K X.mg E g) σ H Q := by
  obtain ⟨F, ρ, fh, en, fin⟩ := h
  exact tX_stepN fh en fin fun v d F1 H1 s1 r1 fin1 => tX_stepN s1.fh (en.mono s1.f) fin1 fun w e F2 H2 s2 r2 fin2 => od F2 H2 v w d e Q s2.fh (r1.mono s2.f) r2 fin2
theorem px_bin {op : Operator} {r : R2} {o : D → D → R D} (ho : OpR X (binaryOp op) r) (od : OpD X E r o) (ha : PX X E a f) (hb : PX X E b g) : PX X E (.BinOp a op b pos) (eOp o f g) := pe_weak (pe_op ho ha hb) fun σ H Q h => tX_op od σ H Q h
theorem pn_bin {op : Operator} {r : R2} {o : D → D → R (List D)} (ho : OpR X (binaryOp op) r) (od : OpDN X E r o) (ha : PX X E a f) (hb : PX X E b g) : PN X E (.BinOp a op b pos) (eOpN o f g) := pe_weak (pe_op ho ha hb) fun σ H Q h => tX_opN od σ H Q h
theorem px_cmp {op : CmpOp} {r : R2} {o : D → D → R D} (ho : OpR X (compareOp op) r) (od : OpD X E r o) (ha : PX X E a f) (hb : PX X E b g) (hm : behindInMarks op b = false) : PX X E (.Compare a [op] [b] pos) (eOp o f g) := pe_weak (pe_cmpR ho ha hb hm) fun σ H Q h => tX_op od σ H Q h
/-- a value's reading as a test's -/
theorem tX_test (σ : L2.St) (H : Hp) (Q : Bool → Hp → Prop) (h : tXT X.K X.mg E (bE f) σ H Q) : tX X.K X.mg E f σ H (fun x H' => ∃ k, x = .bl k ∧ Q k H') := by
  obtain ⟨F, ρ, fh, en, fin⟩ := h
  refine tX_stepT fh en fin fun v d F1 H1 s1 r1 fin1 => ?_
  cases d with
  | bl b => cases r1; exact ⟨b, rfl, fin1 F1 H1 (Stp.refl s1.fh)⟩
  | _ => exact fin1.elim
theorem pt_x (h : PX X E e f) (he : ∀ whole, isTrue e X.env whole = (do let v ← whole; standAt e.pos; holding [v] (truthy v)) := by intro _; rfl) : PXT X E e (bE f) := pt_weak (pt_val h he) fun σ H Q h => tX_test σ H Q h
theorem pt_xc {op : CmpOp} {r : R2} {o : D → D → R D} (ho : OpR X (compareOp op) r) (od : OpD X E r o) (ha : PX X E a f) (hb : PX X E b g) (hm : behindInMarks op b = false) : PXT X E (.Compare a [op] [b] pos) (bE (eOp o f g)) :=
  pt_weak (pt_cmpR ho ha hb hm) fun σ H Q h => tX_op od σ H _ (tX_test σ H Q h)
theorem tX_chain {r r' : R2} {o o' : D → D → R D} (od : OpD X E r o) (od' : OpD X E r' o') (σ : L2.St) (H : Hp) (Q : VK) (hh : tX X.K X.mg E (eChain o o' f g h) σ H Q) : tChain r r' (tX X.K X.mg E f) (tX X.K X.mg E g) (tX X.K X.mg E h) σ H Q := by
  obtain ⟨F, ρ, fh, en, fin⟩ := hh
  refine tX_step fh en fin fun v d F1 H1 s1 r1 fin1 => tX_step s1.fh (en.mono s1.f) fin1 fun w e F2 H2 s2 r2 fin2 => od F2 H2 v w d e _ s2.fh (r1.mono s2.f) r2 ?_
  cases hz : o d e with
  | bad => rw [hz] at fin2; exact fin2
  | err c => rw [hz] at fin2; exact fin2
  | ok z =>
    rw [hz] at fin2
    intro u F3 H3 s3 r3
    cases z with
    | bl k =>
      cases r3
      refine ⟨k, rfl, ?_⟩
      have fin3 : Fin X.K X.mg E F2 H2 Q (if k = true then (h ρ).bind fun u => o' e u else .ok (.bl false)) := fin2
      cases k with
      | true =>
        rw [if_pos rfl] at fin3 ⊢
        exact tX_step s3.fh (en.mono ((s1.f.trans s2.f).trans s3.f)) (Fin.step s3 fin3) fun y d4 F4 H4 s4 r4 fin4 => od' F4 H4 w y e d4 Q s4.fh (r2.mono (s3.f.trans s4.f)) r4 fin4
      | false => exact fin3 _ _ _ s3 (.bl false)
    | _ => exact fin2.elim
theorem px_chain {op op' : CmpOp} {r r' : R2} {o o' : D → D → R D} (ho : OpR X (compareOp op) r) (ho' : OpR X (compareOp op') r') (od : OpD X E r o) (od' : OpD X E r' o') (ha : PX X E a f) (hb : PX X E b g) (hc : PX X E c h)
    (hm : lastMarks [op, op'] [b, c] = false := by with_unfolding_all rfl) : PX X E (.Compare a [op, op'] [b, c] pos) (eChain o o' f g h) := pe_weak (pe_chain ho ho' ha hb hc hm) fun σ H Q h => tX_chain od od' σ H Q h
theorem pt_xchain {op op' : CmpOp} {r r' : R2} {o o' : D → D → R D} (ho : OpR X (compareOp op) r) (ho' : OpR X (compareOp op') r') (od : OpD X E r o) (od' : OpD X E r' o') (ha : PX X E a f) (hb : PX X E b g) (hc : PX X E c h)
    (hm : lastMarks [op, op'] [b, c] = false := by with_unfolding_all rfl) : PXT X E (.Compare a [op, op'] [b, c] pos) (bE (eChain o o' f g h)) := pt_weak (pt_chain ho ho' ha hb hc hm) fun σ H Q h => tX_chain od od' σ H _ (tX_test σ H Q h)
theorem pt_xnot {t : Env → R Bool} (ha : PXT X E a t) : PXT X E (.UnaryOp .Not a pos) (bNot t) := pt_weak (pt_not ha) fun σ H Q ⟨F, ρ, fh, en, fin⟩ =>
  tXT_stepT fh en fin fun b F1 H1 s1 fin1 => fin1 F1 H1 (Stp.refl s1.fh)
theorem pw_xand1 {t : Env → R Bool} (ha : PXT X E a t) : PXW X E (.BoolOp .And [a] pos) t := pw_and1 ha
theorem pw_xor1 {t : Env → R Bool} (ha : PXT X E a t) : PXW X E (.BoolOp .Or [a] pos) t := pw_or1 ha
theorem pw_xand {t u : Env → R Bool} {rest : List Expr} (ha : PXT X E a t) (hb : PXW X E (.BoolOp .And (b :: rest) pos) u) : PXW X E (.BoolOp .And (a :: b :: rest) pos) (bAnd t u) := pw_weak (pw_and ha hb) fun σ H Q ⟨F, ρ, fh, en, fin⟩ =>
  tXT_stepT fh en fin fun b F1 H1 s1 fin1 => by
    cases b with
    | true => rw [if_pos rfl]; exact ⟨F1, ρ, s1.fh, en.mono s1.f, fin1⟩
    | false => exact fin1 F1 H1 (Stp.refl s1.fh)
theorem pw_xor {t u : Env → R Bool} {rest : List Expr} (ha : PXT X E a t) (hb : PXW X E (.BoolOp .Or (b :: rest) pos) u) : PXW X E (.BoolOp .Or (a :: b :: rest) pos) (bOr t u) := pw_weak (pw_or ha hb) fun σ H Q ⟨F, ρ, fh, en, fin⟩ =>
  tXT_stepT fh en fin fun b F1 H1 s1 fin1 => by
    cases b with
    | true => exact fin1 F1 H1 (Stp.refl s1.fh)
    | false => exact ⟨F1, ρ, s1.fh, en.mono s1.f, fin1⟩
theorem px_one {op} (h : PX X E a f) : PX X E (.BoolOp op [a] pos) f := pe_one h
theorem px_and {rest : List Expr} (ha : PX X E a f) (hb : PX X E (.BoolOp .And (b :: rest) pos) g) : PX X E (.BoolOp .And (a :: b :: rest) pos) (eAnd f g) := pe_weak (pe_and ha hb) fun σ H Q ⟨F, ρ, fh, en, fin⟩ =>
  tX_step fh en fin fun v d F1 H1 s1 r1 fin1 => by
    cases d with
    | bl k =>
      cases r1
      refine ⟨k, rfl, ?_⟩
      cases k with
      | true => rw [if_pos rfl]; exact ⟨F1, ρ, s1.fh, en.mono s1.f, fin1⟩
      | false => exact fin1 _ F1 H1 (Stp.refl s1.fh) (.bl false)
    | _ => exact fin1.elim
theorem px_or {rest : List Expr} (ha : PX X E a f) (hb : PX X E (.BoolOp .Or (b :: rest) pos) g) : PX X E (.BoolOp .Or (a :: b :: rest) pos) (eOr f g) := pe_weak (pe_or ha hb) fun σ H Q ⟨F, ρ, fh, en, fin⟩ =>
  tX_step fh en fin fun v d F1 H1 s1 r1 fin1 => by
    cases d with
    | bl k =>
      cases r1
      refine ⟨k, rfl, ?_⟩
      cases k with
      | true => exact fin1 _ F1 H1 (Stp.refl s1.fh) (.bl true)
      | false => exact ⟨F1, ρ, s1.fh, en.mono s1.f, fin1⟩
    | _ => exact fin1.elim
theorem px_not (ha : PX X E a f) : PX X E (.UnaryOp .Not a pos) (eUn oNot f) := pe_weak (pe_not ha) fun σ H Q ⟨F, ρ, fh, en, fin⟩ =>
  tX_step fh en fin fun v d F1 H1 s1 r1 fin1 => by
    cases d with
    | bl k => cases r1; exact ⟨k, rfl, fin1 _ F1 H1 (Stp.refl s1.fh) (.bl _)⟩
    | _ => exact fin1.elim
theorem px_if {t : Env → R Bool} (hc : PXT X E c t) (ha : PX X E a f) (hb : PX X E b g) : PX X E (.IfExp c a b pos) (eIf t f g) := pe_weak (pe_ifExp hc ha hb) fun σ H Q ⟨F, ρ, fh, en, fin⟩ =>
  tXT_step fh en fin fun k F1 H1 s1 fin1 => by
    cases k with
    | true => rw [if_pos rfl]; exact ⟨F1, ρ, s1.fh, en.mono s1.f, fin1⟩
    | false => exact ⟨F1, ρ, s1.fh, en.mono s1.f, fin1⟩
theorem px_neg (ha : PX X E a f) : PX X E (.UnaryOp .USub a pos) (eUn oNeg f) := pe_weak (pe_un un_neg ha) fun σ H Q ⟨F, ρ, fh, en, fin⟩ =>
  tX_step fh en fin fun v d F1 H1 s1 r1 fin1 => by
    cases d with
    | int k => cases r1; exact ⟨k, rfl, fin1 _ F1 H1 (Stp.refl s1.fh) (.int _)⟩
    | _ => exact fin1.elim
/-! arguments, displays -/
theorem pxa_nil : PXs X E [] aNil := pa_weak pa_nil fun σ H Q ⟨F, ρ, fh, en, fin⟩ => fin [] F H (Stp.refl fh) .nil
theorem pxa_cons (ha : PX X E e f) (hr : PXs X E es fs) (hs : starEach (e :: es) X.env = (false, eval e X.env) :: starEach es X.env := by rfl) : PXs X E (e :: es) (aCons f fs) := pa_weak (pa_cons ha hr hs) fun σ H Q ⟨F, ρ, fh, en, fin⟩ =>
  tX_stepA fh en fin fun v d F1 H1 s1 r1 fin1 => tXs_stepA s1.fh (en.mono s1.f) fin1 fun vs ds F2 H2 s2 r2 fin2 => fin2 _ F2 H2 (Stp.refl s2.fh) (.cons (r1.mono s2.f) r2)
theorem sz {n : Nat} (h : n ≤ 100000) : n ≤ sizeLine := Nat.le_trans h (by decide)
theorem px_tup {x1} (h : PXs X E es fs) : PX X E (.Tuple es x1 pos) (eTup fs) := pe_weak (pe_tup h) fun σ H Q ⟨F, ρ, fh, en, fin⟩ =>
  tXs_step fh en fin fun vs ds F1 H1 s1 r1 fin1 => by
    by_cases hl : ds.length ≤ 100000
    · rw [if_pos hl] at fin1
      exact ⟨by rw [r1.length]; exact sz hl, fun p hp => fin1 _ _ _ (Stp.new s1.fh hp) (.tup upd_same (r1.mono (same_upd (s1.fh.free hp))))⟩
    · rw [if_neg hl] at fin1
      exact fin1.elim
theorem pn_lst (h : PXs X E es fs) : PN X E (.List es pos) (eLst fs) := pe_weak (pe_lst h) fun σ H Q ⟨F, ρ, fh, en, fin⟩ =>
  tXs_stepN fh en fin fun vs ds F1 H1 s1 r1 fin1 => by
    by_cases hl : ds.length ≤ 100000
    · rw [if_pos hl] at fin1
      exact ⟨by rw [r1.length]; exact sz hl, fun p hp => fin1 _ _ _ _ (Stp.out s1.fh hp) hp (s1.fh.free hp) upd_same r1⟩
    · rw [if_neg hl] at fin1
      exact fin1.elim
end
end DL
/-! The data layer, 3: operations, built-ins. -/
namespace DL
open PySem L2
section
variable {X : Cx} {E : XK} {a b c e : Expr} {es : List Expr} {f g h : Env → R D} {fs : Env → R (List D)} {pos : Pos}

/-! ### operations on ints -/
theorem od_add : OpD X E (fun x y H Q => rI0 (fun i j => .int (i + j)) x y H Q ∨ rCat x y H Q) oAdd := fun F H v w d e Q fh r1 r2 fin => by
  cases d <;> cases e <;> first
    | exact fin.elim
    | (cases r1; cases r2; exact .inl ⟨_, _, rfl, rfl, fin _ F H (Stp.refl fh) (.int _)⟩)
    | skip
  rename_i ds es
  cases r1 with
  | lst h1 q1 =>
    cases r2 with
    | lst h2 q2 =>
      have fin : Fin X.K X.mg E F H Q (if ds.length + es.length ≤ 100000 then .ok (.lst (ds ++ es)) else .bad) := fin
      by_cases hl : ds.length + es.length ≤ 100000
      · rw [if_pos hl] at fin
        exact .inr ⟨_, _, _, _, rfl, rfl, fh _ _ h1, fh _ _ h2, by rw [q1.length, q2.length]; exact sz hl, fun p hp => fin _ _ _ (Stp.new fh hp) (.lst upd_same ((q1.append q2).mono (same_upd (fh.free hp))))⟩
      · rw [if_neg hl] at fin
        exact fin.elim
theorem px_add (ha : PX X E a f) (hb : PX X E b g) : PX X E (.BinOp a .Add b pos) (eOp oAdd f g) := px_bin (op_add.or op_cat) od_add ha hb
theorem od_cat : OpDN X E rCat oCat := fun F H v w d e Q fh r1 r2 fin => by
  cases d <;> cases e <;> first
    | exact fin.elim
    | skip
  rename_i ds es
  cases r1 with
  | lst h1 q1 =>
    cases r2 with
    | lst h2 q2 =>
      have fin : FinN X.K X.mg E F H Q (if ds.length + es.length ≤ 100000 then .ok (ds ++ es) else .bad) := fin
      by_cases hl : ds.length + es.length ≤ 100000
      · rw [if_pos hl] at fin
        exact ⟨_, _, _, _, rfl, rfl, fh _ _ h1, fh _ _ h2, by rw [q1.length, q2.length]; exact sz hl, fun p hp => fin _ _ _ _ (Stp.out fh hp) hp (fh.free hp) upd_same (q1.append q2)⟩
      · rw [if_neg hl] at fin
        exact fin.elim
theorem pn_cat (ha : PX X E a f) (hb : PX X E b g) : PN X E (.BinOp a .Add b pos) (eOpN oCat f g) := pn_bin op_cat od_cat ha hb
theorem od_sub : OpD X E (rI0 fun i j => .int (i - j)) oSub := fun F H v w d e Q fh r1 r2 fin => by
  cases d <;> cases e <;> first
    | exact fin.elim
    | (cases r1; cases r2; exact ⟨_, _, rfl, rfl, fin _ F H (Stp.refl fh) (.int _)⟩)
theorem px_sub (ha : PX X E a f) (hb : PX X E b g) : PX X E (.BinOp a .Sub b pos) (eOp oSub f g) := px_bin op_sub od_sub ha hb
theorem od_mul : OpD X E (rI CMul fun i j => .int (i * j)) oMul := fun F H v w d e Q fh r1 r2 fin => by
  cases d <;> cases e <;> first
    | exact fin.elim
    | skip
  rename_i i j
  cases r1; cases r2
  have fin : Fin X.K X.mg E F H Q (if mulOk i j then .ok (.int (i * j)) else .bad) := fin
  by_cases hl : mulOk i j
  · rw [if_pos hl] at fin
    exact ⟨_, _, rfl, rfl, hl, fin _ F H (Stp.refl fh) (.int _)⟩
  · rw [if_neg hl] at fin
    exact fin.elim
theorem px_mul (ha : PX X E a f) (hb : PX X E b g) : PX X E (.BinOp a .Mult b pos) (eOp oMul f g) := px_bin op_mul od_mul ha hb
theorem od_rep : OpDN X E rRep oRep := fun F H v w d e Q fh r1 r2 fin => by
  cases d <;> cases e <;> first
    | exact fin.elim
    | skip
  rename_i ds k
  cases r2
  cases r1 with
  | lst h1 q1 =>
    have fin : FinN X.K X.mg E F H Q (if k ≤ 100000 ∧ ds.length * k.toNat ≤ 100000 ∧ -100000 ≤ k then .ok (List.replicate k.toNat ds).flatten else .bad) := fin
    by_cases hl : k ≤ 100000 ∧ ds.length * k.toNat ≤ 100000 ∧ -100000 ≤ k
    · rw [if_pos hl] at fin
      obtain ⟨l1, l2, l3⟩ := hl
      exact ⟨_, _, _, rfl, rfl, fh _ _ h1, by omega, by omega, by rw [q1.length]; exact sz l2, fun p hp => fin _ _ _ _ (Stp.out fh hp) hp (fh.free hp) upd_same (q1.rep _)⟩
    · rw [if_neg hl] at fin
      exact fin.elim
theorem pn_rep (ha : PX X E a f) (hb : PX X E b g) : PN X E (.BinOp a .Mult b pos) (eOpN oRep f g) := pn_bin op_rep od_rep ha hb
theorem od_mod : OpD X E (rI (fun _ j => 0 < j) fun i j => .int (i % j)) oMod := fun F H v w d e Q fh r1 r2 fin => by
  cases d <;> cases e <;> first
    | exact fin.elim
    | skip
  rename_i i j
  cases r1; cases r2
  have fin : Fin X.K X.mg E F H Q (if 0 < j then .ok (.int (i % j)) else .bad) := fin
  by_cases hl : 0 < j
  · rw [if_pos hl] at fin
    exact ⟨_, _, rfl, rfl, hl, fin _ F H (Stp.refl fh) (.int _)⟩
  · rw [if_neg hl] at fin
    exact fin.elim
theorem px_mod (ha : PX X E a f) (hb : PX X E b g) : PX X E (.BinOp a .Mod b pos) (eOp oMod f g) := px_bin op_mod od_mod ha hb
theorem od_fdiv : OpD X E (rI CDiv fun i j => .int (i / j)) oFdiv := fun F H v w d e Q fh r1 r2 fin => by
  cases d <;> cases e <;> first
    | exact fin.elim
    | skip
  rename_i i j
  cases r1; cases r2
  have fin : Fin X.K X.mg E F H Q (if 0 < j ∧ j < 1073741824 then .ok (.int (i / j)) else .bad) := fin
  by_cases hl : 0 < j ∧ j < 1073741824
  · rw [if_pos hl] at fin
    exact ⟨_, _, rfl, rfl, hl, fin _ F H (Stp.refl fh) (.int _)⟩
  · rw [if_neg hl] at fin
    exact fin.elim
theorem px_fdiv (ha : PX X E a f) (hb : PX X E b g) : PX X E (.BinOp a .FloorDiv b pos) (eOp oFdiv f g) := px_bin op_fdiv od_fdiv ha hb
theorem od_pow : OpD X E (rI CPow fun i j => .int (i ^ j.toNat)) oPow := fun F H v w d e Q fh r1 r2 fin => by
  cases d <;> cases e <;> first
    | exact fin.elim
    | skip
  rename_i i j
  cases r1; cases r2
  have fin : Fin X.K X.mg E F H Q (if 0 ≤ j ∧ j ≤ 1000000 ∧ i.natAbs < 2 ^ 64 then .ok (.int (i ^ j.toNat)) else .bad) := fin
  by_cases hl : 0 ≤ j ∧ j ≤ 1000000 ∧ i.natAbs < 2 ^ 64
  · rw [if_pos hl] at fin
    exact ⟨_, _, rfl, rfl, hl, fin _ F H (Stp.refl fh) (.int _)⟩
  · rw [if_neg hl] at fin
    exact fin.elim
theorem px_pow (ha : PX X E a f) (hb : PX X E b g) : PX X E (.BinOp a .Pow b pos) (eOp oPow f g) := px_bin op_pow od_pow ha hb
theorem od_cmp {p : Int → Int → Bool} : OpD X E (rI0 fun i j => .bl (p i j)) (oCmp p) := fun F H v w d e Q fh r1 r2 fin => by
  cases d <;> cases e <;> first
    | exact fin.elim
    | (cases r1; cases r2; exact ⟨_, _, rfl, rfl, fin _ F H (Stp.refl fh) (.bl _)⟩)
/-! ### == of data -/
mutual
theorem Rp.dp {K : PySem.W.Frag} {mg : Str → Option Value} {F : Hp} : ∀ {v : V} {d : D} {p : PyData}, Rp K mg F v d → toPy d = some p → L2.Dp K F v p
  | _, _, _, .non, e => by cases e; exact .non
  | _, _, _, .bl b, e => by cases e; exact .bl b
  | _, _, _, .int b, e => by cases e; exact .int b
  | _, _, _, .str b, e => by cases e; exact .str b
  | _, _, _, .lst (ds := ds) h r, e => by
    unfold toPy at e
    cases hp : toPys ds with
    | none => rw [hp] at e; cases e
    | some ps =>
      rw [hp] at e
      cases e
      exact .lst (SqL.of h) (Rps.dp r hp)
  | _, _, _, .tup (ds := ds) h r, e => by
    unfold toPy at e
    cases hp : toPys ds with
    | none => rw [hp] at e; cases e
    | some ps =>
      rw [hp] at e
      cases e
      exact .tup (SqT.of h) (Rps.dp r hp)
  | _, _, _, .scr (ns := ns) h, e => by
    unfold toPy at e
    cases e
    refine .lst h ?_
    clear h
    induction ns with
    | nil => exact .nil
    | cons n ns ih => exact .cons (.int n) ih
  | _, _, _, .obj _ _ _, e => by unfold toPy at e; cases e
  | _, _, _, .opq _, e => by unfold toPy at e; cases e
theorem Rps.dp {K : PySem.W.Frag} {mg : Str → Option Value} {F : Hp} : ∀ {vs : List V} {ds : List D} {ps : List PyData}, Rps K mg F vs ds → toPys ds = some ps → L2.DpAll K F vs ps
  | _, _, _, .nil, e => by unfold toPys at e; cases e; exact .nil
  | _, _, _, .cons (d := d) (ds := ds) h r, e => by
    unfold toPys at e
    cases hd : toPy d with
    | none => rw [hd] at e; cases e
    | some p =>
      cases hp : toPys ds with
      | none => rw [hd, hp] at e; cases e
      | some ps =>
        rw [hd, hp] at e
        cases e
        exact .cons (Rp.dp h hd) (Rps.dp r hp)
end
theorem od_eq : OpD X E (rEqD X.K) oEq := fun F H v w d e Q fh r1 r2 fin => by
  unfold oEq eqD at fin
  cases h1 : toPy d with
  | none => rw [h1] at fin; exact fin.elim
  | some p =>
    cases h2 : toPy e with
    | none => rw [h1, h2] at fin; exact fin.elim
    | some q =>
      rw [h1, h2] at fin
      by_cases hl : SeqAt.shaped p = true ∧ SeqAt.shaped q = true
      · simp only [hl, and_self, if_true, R.bind_ok] at fin
        exact ⟨p, q, (r1.mono fh).dp h1, (r2.mono fh).dp h2, hl.1, hl.2, fin _ F H (Stp.refl fh) (.bl _)⟩
      · simp only [hl, if_false] at fin
        exact fin.elim
theorem od_ne : OpD X E (rNeD X.K) oNe := fun F H v w d e Q fh r1 r2 fin => by
  unfold oNe eqD at fin
  cases h1 : toPy d with
  | none => rw [h1] at fin; exact fin.elim
  | some p =>
    cases h2 : toPy e with
    | none => rw [h1, h2] at fin; exact fin.elim
    | some q =>
      rw [h1, h2] at fin
      by_cases hl : SeqAt.shaped p = true ∧ SeqAt.shaped q = true
      · simp only [hl, and_self, if_true, R.bind_ok] at fin
        exact ⟨p, q, (r1.mono fh).dp h1, (r2.mono fh).dp h2, hl.1, hl.2, fin _ F H (Stp.refl fh) (.bl _)⟩
      · simp only [hl, if_false] at fin
        exact fin.elim
/-! ### is -/
theorem Rp.isNon {K : PySem.W.Frag} {mg : Str → Option Value} {F : Hp} {v : V} {d : D} {b : Bool} (r : Rp K mg F v d) (h : isNon d = .ok b) : decide (v = .non) = b := by
  cases r <;> simp_all [DL.isNon]
def rIs : R2 := fun x y H Q => (y = .non ∧ Q (.bl (decide (x = .non))) H) ∨ rIsB x y H Q
def rIsN : R2 := fun x y H Q => (y = .non ∧ Q (.bl (!decide (x = .non))) H) ∨ rNotB x y H Q
theorem od_is : OpD X E rIs oIs := fun F H v w d e Q fh r1 r2 fin => by
  cases e with
  | non =>
    cases r2
    have fin : Fin X.K X.mg E F H Q ((isNon d).bind fun b => .ok (.bl b)) := by cases d <;> exact fin
    cases hn : isNon d with
    | ok k => rw [hn] at fin; refine .inl ⟨rfl, ?_⟩; rw [r1.isNon hn]; exact fin _ F H (Stp.refl fh) (.bl _)
    | err c => cases d <;> cases hn
    | bad => rw [hn] at fin; exact fin.elim
  | bl k =>
    cases d with
    | bl j => cases r1; cases r2; exact .inr ⟨_, _, rfl, rfl, fin _ F H (Stp.refl fh) (.bl _)⟩
    | _ => exact fin.elim
  | _ => cases d <;> exact fin.elim
theorem od_isnot : OpD X E rIsN oIsNot := fun F H v w d e Q fh r1 r2 fin => by
  cases e with
  | non =>
    cases r2
    have fin : Fin X.K X.mg E F H Q ((isNon d).bind fun b => .ok (.bl !b)) := by cases d <;> exact fin
    cases hn : isNon d with
    | ok k => rw [hn] at fin; refine .inl ⟨rfl, ?_⟩; rw [r1.isNon hn]; exact fin _ F H (Stp.refl fh) (.bl _)
    | err c => cases d <;> cases hn
    | bad => rw [hn] at fin; exact fin.elim
  | bl k =>
    cases d with
    | bl j => cases r1; cases r2; exact .inr ⟨_, _, rfl, rfl, fin _ F H (Stp.refl fh) (.bl _)⟩
    | _ => exact fin.elim
  | _ => cases d <;> exact fin.elim
/-! ### in -/
theorem Rp.flat {K : PySem.W.Frag} {mg : Str → Option Value} {F : Hp} {v : V} {d : D} (r : Rp K mg F v d) (h : flatD d = true) : flatV v = true := by
  cases r <;> first | rfl | exact absurd (show false = true from h) Bool.false_ne_true
theorem Rp.eqF {K : PySem.W.Frag} {mg : Str → Option Value} {F : Hp} {v w : V} {d e : D} (r : Rp K mg F v d) (q : Rp K mg F w e) (h : flatD d = true) (h2 : flatD e = true) : eqV v w = eqF d e := by
  cases r <;> first | exact absurd (show false = true from h) Bool.false_ne_true | (cases q <;> first | rfl | exact absurd (show false = true from h2) Bool.false_ne_true)
theorem Rps.flat {K : PySem.W.Frag} {mg : Str → Option Value} {F : Hp} : ∀ {vs : List V} {ds : List D}, Rps K mg F vs ds → ds.all flatD = true → vs.all flatV = true
  | _, _, .nil, _ => rfl
  | _, _, .cons h r, e => by
    simp only [List.all_cons, Bool.and_eq_true] at e ⊢
    exact ⟨h.flat e.1, Rps.flat r e.2⟩
theorem Rps.inV {K : PySem.W.Frag} {mg : Str → Option Value} {F : Hp} {v : V} {d : D} (rv : Rp K mg F v d) (fd : flatD d = true) : ∀ {vs : List V} {ds : List D}, Rps K mg F vs ds → ds.all flatD = true → L2.inV v vs = ds.any fun e => DL.eqF e d
  | _, _, .nil, _ => rfl
  | _, _, .cons (d := d') h r, e => by
    simp only [List.all_cons, Bool.and_eq_true] at e
    have ih := Rps.inV rv fd r e.2
    unfold L2.inV at ih ⊢
    rw [List.any_cons, List.any_cons, ih, h.eqF rv e.1 fd]
theorem Rp.seq {K : PySem.W.Frag} {mg : Str → Option Value} {F : Hp} {v : V} {d : D} {ds : List D} (r : Rp K mg F v d) (h : seqD d = some ds) : ∃ p xs, v = .ref p ∧ (SqL K F p xs ∨ SqT K F p xs) ∧ Rps K mg F xs ds := by
  cases r with
  | lst q s => cases h; exact ⟨_, _, rfl, .inl (SqL.of q), s⟩
  | tup q s => cases h; exact ⟨_, _, rfl, .inr (SqT.of q), s⟩
  | _ => cases h
theorem sqt_mono {K : PySem.W.Frag} {H H' : Hp} {a : Addr} {xs : List V} (e : Same H H') (h : SqT K H a xs) : SqT K H' a xs := by
  rcases h with (h | ⟨o, h⟩) | h
  · exact .inl (.inl (e _ _ h))
  · exact .inl (.inr ⟨o, e _ _ h⟩)
  · exact .inr h
theorem sq_mono {K : PySem.W.Frag} {H H' : Hp} {a : Addr} {xs : List V} (e : Same H H') (h : SqL K H a xs ∨ SqT K H a xs) : SqL K H' a xs ∨ SqT K H' a xs := h.elim (fun z => .inl (e.seq z)) fun z => .inr (sqt_mono e z)
theorem od_in : OpD X E (rIn X.K false) oIn := fun F H v w d e Q fh r1 r2 fin => by
  unfold oIn inD at fin
  cases hs : seqD e with
  | none => rw [hs] at fin; exact fin.elim
  | some ds =>
    rw [hs] at fin
    by_cases hl : flatD d = true ∧ ds.all flatD = true
    · simp only [hl, and_self, if_true, R.bind_ok] at fin
      obtain ⟨p, xs, rfl, hq, hr⟩ := r2.seq hs
      refine ⟨p, xs, rfl, sq_mono fh hq, r1.flat hl.1, hr.flat hl.2, ?_⟩
      simp only [Bool.false_eq_true, if_false]
      rw [Rps.inV r1 hl.1 hr hl.2]
      exact fin _ F H (Stp.refl fh) (.bl _)
    · simp only [hl, if_false] at fin
      exact fin.elim
theorem od_notin : OpD X E (rIn X.K true) oNotIn := fun F H v w d e Q fh r1 r2 fin => by
  unfold oNotIn inD at fin
  cases hs : seqD e with
  | none => rw [hs] at fin; exact fin.elim
  | some ds =>
    rw [hs] at fin
    by_cases hl : flatD d = true ∧ ds.all flatD = true
    · simp only [hl, and_self, if_true, R.bind_ok] at fin
      obtain ⟨p, xs, rfl, hq, hr⟩ := r2.seq hs
      refine ⟨p, xs, rfl, sq_mono fh hq, r1.flat hl.1, hr.flat hl.2, ?_⟩
      simp only [if_true]
      rw [Rps.inV r1 hl.1 hr hl.2]
      exact fin _ F H (Stp.refl fh) (.bl _)
    · simp only [hl, if_false] at fin
      exact fin.elim
/-! ### subscripts, slices -/
theorem Rps.at {K : PySem.W.Frag} {mg : Str → Option Value} {F : Hp} {vs : List V} {ds : List D} {i : Int} {d : D} (r : Rps K mg F vs ds) (h : atI ds i = some d) : ∃ v, atI vs i = some v ∧ Rp K mg F v d := by
  unfold atI at h ⊢
  rw [r.length]
  cases hx : ixN ds.length i with
  | none => rw [hx] at h; cases h
  | some j => rw [hx] at h; exact r.get h
theorem px_ix (ha : PX X E a f) (hb : PX X E b g) (hs : PlainIx b) : PX X E (.Subscript a b pos) (eOp oIx f g) := pe_weak (pe_ix (ix_list.or ix_tup) ha hb hs) (tX_op fun F H v w d e Q fh r1 r2 fin => by
  unfold oIx at fin
  cases hq : seqD d with
  | none => rw [hq] at fin; cases e <;> exact fin.elim
  | some ds =>
    rw [hq] at fin
    cases e with
    | int i =>
      simp only at fin
      cases ha : atI ds i with
      | none => rw [ha] at fin; exact fin.elim
      | some z =>
        rw [ha] at fin
        obtain ⟨p, xs, rfl, hp, hr⟩ := r1.seq hq
        obtain ⟨u, hu, ru⟩ := hr.at ha
        cases r2
        rcases sq_mono fh hp with hp | hp
        · exact .inl ⟨p, xs, i, u, rfl, rfl, hp, hu, fin _ F H (Stp.refl fh) ru⟩
        · exact .inr ⟨p, xs, i, u, rfl, rfl, hp, hu, fin _ F H (Stp.refl fh) ru⟩
    | _ => exact fin.elim)
end
end DL
/-! The data layer, 4: slices, built-ins by name, calls of defs, targets, what is walked, comprehensions. -/
namespace DL
open PySem L2
/-! ### slices -/
def FinO (mg : Str → Option Value) (E : XK) (F H : Hp) (Q : Option Int → Hp → Prop) : R (Option Int) → Prop
  | .ok o => ∀ F2 H2, Stp F H F2 H2 → Q o H2
  | .err c => ∀ C H2, Same H H2 → mg c = some (.ref C) → E (.ref C) none H2
  | .bad => False
def tXO (K : PySem.W.Frag) (mg : Str → Option Value) (E : XK) (f : Env → R (Option Int)) : TO := fun σ H Q => ∃ F ρ, Same F H ∧ EnvR K mg F σ ρ ∧ FinO mg E F H Q (f ρ)
abbrev PXO (X : Cx) (E : XK) (e : Option Expr) (f : Env → R (Option Int)) : Prop := PO X e (tXO X.K X.mg E f)
theorem po_weak {X : Cx} {e : Option Expr} {t t' : TO} (h : PO X e t) (w : ∀ σ H Q, t' σ H Q → t σ H Q) : PO X e t' := ⟨fun pins s σ H Q I q => h.run pins s σ H Q I (w σ H Q q)⟩
section
variable {X : Cx} {E : XK} {a b c e : Expr} {es : List Expr} {f g h : Env → R D} {fs : Env → R (List D)} {pos : Pos}
theorem po_xnone : PXO X E none pNo := po_weak po_none fun σ H Q ⟨F, ρ, fh, en, fin⟩ => fin F H (Stp.refl fh)
theorem po_xsome (ha : PX X E a f) : PXO X E (some a) (pSome f) := po_weak (po_some ha) fun σ H Q ⟨F, ρ, fh, en, fin⟩ => ⟨F, ρ, fh, en, by
  cases hf : f ρ with
  | bad => unfold pSome at fin; rw [hf] at fin; exact fin
  | err c => unfold pSome at fin; rw [hf] at fin; exact fin
  | ok d =>
    unfold pSome at fin
    rw [hf] at fin
    intro v F2 H2 s2 r2
    cases d with
    | int i => cases r2; exact ⟨i, rfl, fin F2 H2 s2⟩
    | _ => exact fin.elim⟩
theorem tXO_stepN {K : PySem.W.Frag} {mg : Str → Option Value} {F H : Hp} {Q : VK} {QO : Option Int → Hp → Prop} {σ : L2.St} {ρ : Env} {f : Env → R (Option Int)} {g : Option Int → R (List D)} (fh : Same F H) (en : EnvR K mg F σ ρ) (fin : FinN K mg E F H Q ((f ρ).bind g))
    (k : ∀ o F1 H1, Stp F H F1 H1 → FinN K mg E F1 H1 Q (g o) → QO o H1) : tXO K mg E f σ H QO := by
  refine ⟨F, ρ, fh, en, ?_⟩
  cases hf : f ρ with
  | ok d => rw [hf] at fin; exact fun F1 H1 st => k d F1 H1 st (FinN.step st fin)
  | err c => rw [hf] at fin; exact fin
  | bad => rw [hf] at fin; exact fin
theorem Rps.cut {K : PySem.W.Frag} {mg : Str → Option Value} {F : Hp} {vs : List V} {ds : List D} {lo hi : Option Int} (r : Rps K mg F vs ds) : Rps K mg F (cutV vs lo hi) (cutD ds lo hi) := by
  unfold cutV cutD
  rw [r.length]
  exact (r.drop _).take _
theorem cut_ints (ns : List Int) (lo hi : Option Int) : cutV (ns.map V.int) lo hi = (cutD ns lo hi).map V.int := by
  unfold cutV cutD
  rw [List.length_map, List.map_take, List.map_drop]
theorem pn_sl {lo hi : Option Expr} {l u : Env → R (Option Int)} {p2 : Pos} (he : PX X E e f) (hl : PXO X E lo l) (hu : PXO X E hi u) : PN X E (.Subscript e (.Slice lo hi none p2) pos) (eSl f l u) :=
  pe_weak (pe_slice sl_list he hl hu) fun σ H Q ⟨F, ρ, fh, en, fin⟩ =>
    tX_stepN fh en fin fun v d F1 H1 s1 r1 fin1 => tXO_stepN s1.fh (en.mono s1.f) fin1 fun lo F2 H2 s2 fin2 => tXO_stepN s2.fh (en.mono (s1.f.trans s2.f)) fin2 fun hi F3 H3 s3 fin3 => by
      have r3 := r1.mono (s2.f.trans s3.f)
      cases d with
      | lst ds =>
        cases r3 with
        | lst q rr => exact ⟨_, _, rfl, SqL.of (s3.fh _ _ q), fun p hp => fin3 _ _ _ _ (Stp.out s3.fh hp) hp (s3.fh.free hp) upd_same rr.cut⟩
      | scr ns =>
        cases r3 with
        | scr q => exact ⟨_, _, rfl, s3.fh.seq q, fun p hp => fin3 _ _ _ _ (Stp.out s3.fh hp) hp (s3.fh.free hp) upd_same (by rw [cut_ints]; exact Rps.ofInts _)⟩
      | _ => exact fin3.elim
theorem pn_rev {k : Nat} {p1 p2 p3 pos : Pos} (he : PX X E e f) : PN X E (.Subscript e (.Slice none none (some (.UnaryOp .USub (.Constant (.int 1) k p1) p2)) p3) pos) (eUnN oRev f) :=
  pe_weak (pe_revL he) fun σ H Q ⟨F, ρ, fh, en, fin⟩ => tX_stepN fh en fin fun v d F1 H1 s1 r1 fin1 => by
    cases d with
    | lst ds =>
      cases r1 with
      | lst q rr => exact ⟨_, _, rfl, SqL.of (s1.fh _ _ q), fun p hp => fin1 _ _ _ _ (Stp.out s1.fh hp) hp (s1.fh.free hp) upd_same rr.reverse⟩
    | _ => exact fin1.elim
/-! ### built-ins -/
def CallD (X : Cx) (E : XK) (r : List V → Hp → VK → Prop) (o : List D → R D) : Prop := ∀ (F H : Hp) (vs : List V) (ds : List D) (Q : VK), Same F H → Rps X.K X.mg F vs ds → Fin X.K X.mg E F H Q (o ds) → r vs H Q
def CallDN (X : Cx) (E : XK) (r : List V → Hp → VK → Prop) (o : List D → R (List D)) : Prop := ∀ (F H : Hp) (vs : List V) (ds : List D) (Q : VK), Same F H → Rps X.K X.mg F vs ds → FinN X.K X.mg E F H Q (o ds) → r vs H Q
theorem tX_call {r : List V → Hp → VK → Prop} {o : List D → R D} (cd : CallD X E r o) (σ : L2.St) (H : Hp) (Q : VK) (h : tX X.K X.mg E (eCall o fs) σ H Q) : tCB r (tXs X.K X.mg E fs) σ H Q := by
  obtain ⟨F, ρ, fh, en, fin⟩ := h
  exact tXs_step fh en fin fun vs ds F1 H1 s1 r1 fin1 => cd F1 H1 vs ds Q s1.fh r1 fin1
theorem tX_callN {r : List V → Hp → VK → Prop} {o : List D → R (List D)} (cd : CallDN X E r o) (σ : L2.St) (H : Hp) (Q : VK) (h : tN X.K X.mg E (eCallN o fs) σ H Q) : tCB r (tXs X.K X.mg E fs) σ H Q := by
  obtain ⟨F, ρ, fh, en, fin⟩ := h
  exact tXs_stepN fh en fin fun vs ds F1 H1 s1 r1 fin1 => cd F1 H1 vs ds Q s1.fh r1 fin1
section
variable {x : Str} {id T : String} {p : Pos}
theorem px_cb {r : List V → Hp → VK → Prop} {o : List D → R D} (hc : CallR X (.builtin id) r) (cd : CallD X E r o) (hg : Gl X x) (hm : X.mg x = none) (hv : bootBuiltins x = some (.builtin id)) (ha : PXs X E (e :: es) fs) (hn : x ≠ "__name__" := by decide) (hdb : (x == ("__debug__" : Str)) = false := by decide)
    (he : starEach (e :: es) X.env = (false, eval e X.env) :: starEach es X.env := by rfl) (hpl : (backTo pos (starEach es X.env)).any (·.1) = false := by rfl) : PX X E (.Call (.Name x p) (e :: es) [] pos) (eCall o fs) := pe_weak (pe_callB hc hg hm hv ha hn hdb he hpl) fun σ H Q h => tX_call cd σ H Q h
theorem pn_cb {r : List V → Hp → VK → Prop} {o : List D → R (List D)} (hc : CallR X (.builtin id) r) (cd : CallDN X E r o) (hg : Gl X x) (hm : X.mg x = none) (hv : bootBuiltins x = some (.builtin id)) (ha : PXs X E (e :: es) fs) (hn : x ≠ "__name__" := by decide) (hdb : (x == ("__debug__" : Str)) = false := by decide)
    (he : starEach (e :: es) X.env = (false, eval e X.env) :: starEach es X.env := by rfl) (hpl : (backTo pos (starEach es X.env)).any (·.1) = false := by rfl) : PN X E (.Call (.Name x p) (e :: es) [] pos) (eCallN o fs) := pe_weak (pe_callB hc hg hm hv ha hn hdb he hpl) fun σ H Q h => tX_callN cd σ H Q h
theorem px_ct {r : List V → Hp → VK → Prop} {o : List D → R D} (hc : CallR X (.type T) r) (cd : CallD X E r o) (hg : Gl X x) (hm : X.mg x = none) (hv : bootBuiltins x = some (.type T)) (ha : PXs X E (e :: es) fs) (hn : x ≠ "__name__" := by decide) (hdb : (x == ("__debug__" : Str)) = false := by decide)
    (he : starEach (e :: es) X.env = (false, eval e X.env) :: starEach es X.env := by rfl) (hpl : (backTo pos (starEach es X.env)).any (·.1) = false := by rfl) : PX X E (.Call (.Name x p) (e :: es) [] pos) (eCall o fs) := pe_weak (pe_callTy hc hg hm hv ha hn hdb he hpl) fun σ H Q h => tX_call cd σ H Q h
theorem pn_ct {r : List V → Hp → VK → Prop} {o : List D → R (List D)} (hc : CallR X (.type T) r) (cd : CallDN X E r o) (hg : Gl X x) (hm : X.mg x = none) (hv : bootBuiltins x = some (.type T)) (ha : PXs X E (e :: es) fs) (hn : x ≠ "__name__" := by decide) (hdb : (x == ("__debug__" : Str)) = false := by decide)
    (he : starEach (e :: es) X.env = (false, eval e X.env) :: starEach es X.env := by rfl) (hpl : (backTo pos (starEach es X.env)).any (·.1) = false := by rfl) : PN X E (.Call (.Name x p) (e :: es) [] pos) (eCallN o fs) := pe_weak (pe_callTy hc hg hm hv ha hn hdb he hpl) fun σ H Q h => tX_callN cd σ H Q h
end
theorem cd_len : CallD X E (fun xs H Q => ∃ p ys, xs = [.ref p] ∧ (SqL X.K H p ys ∨ SqT X.K H p ys) ∧ Q (.int ys.length) H) oLen := fun F H vs ds Q fh r fin => by
  match ds, r, fin with
  | [.lst ds], .cons (.lst h q) .nil, fin => exact ⟨_, _, rfl, .inl (SqL.of (fh _ _ h)), by rw [q.length]; exact fin _ F H (Stp.refl fh) (.int _)⟩
  | [.tup ds], .cons (.tup h q) .nil, fin => exact ⟨_, _, rfl, .inr (SqT.of (fh _ _ h)), by rw [q.length]; exact fin _ F H (Stp.refl fh) (.int _)⟩
  | [.scr ns], .cons (.scr h) .nil, fin => exact ⟨_, _, rfl, .inl (fh.seq h), by rw [List.length_map]; exact fin _ F H (Stp.refl fh) (.int _)⟩
theorem intsOf_eq : ∀ {ds : List D} {ns : List Int}, intsOf ds = some ns → ds = ns.map D.int
  | [], ns, h => by cases h; rfl
  | .int i :: ds, ns, h => by
    unfold intsOf at h
    cases hi : intsOf ds with
    | none => rw [hi] at h; cases h
    | some ms => rw [hi] at h; cases h; rw [intsOf_eq hi]; rfl
  | .non :: _, _, h => by cases h
  | .bl _ :: _, _, h => by cases h
  | .str _ :: _, _, h => by cases h
  | .lst _ :: _, _, h => by cases h
  | .tup _ :: _, _, h => by cases h
  | .scr _ :: _, _, h => by cases h
  | .obj _ _ _ :: _, _, h => by cases h
  | .opq _ :: _, _, h => by cases h
@[simp] theorem intsOf_map (ns : List Int) : intsOf (ns.map D.int) = some ns := by
  induction ns with
  | nil => rfl
  | cons n ns ih => simp [intsOf, ih]
theorem blsOf_eq : ∀ {ds : List D} {ns : List Bool}, blsOf ds = some ns → ds = ns.map D.bl
  | [], ns, h => by cases h; rfl
  | .bl i :: ds, ns, h => by
    unfold blsOf at h
    cases hi : blsOf ds with
    | none => rw [hi] at h; cases h
    | some ms => rw [hi] at h; cases h; rw [blsOf_eq hi]; rfl
  | .non :: _, _, h => by cases h
  | .int _ :: _, _, h => by cases h
  | .str _ :: _, _, h => by cases h
  | .lst _ :: _, _, h => by cases h
  | .tup _ :: _, _, h => by cases h
  | .scr _ :: _, _, h => by cases h
  | .obj _ _ _ :: _, _, h => by cases h
  | .opq _ :: _, _, h => by cases h
@[simp] theorem blsOf_map (ns : List Bool) : blsOf (ns.map D.bl) = some ns := by
  induction ns with
  | nil => rfl
  | cons n ns ih => simp [blsOf, ih]
/-- one list of ints -/
theorem onInts_inv {K : PySem.W.Frag} {mg : Str → Option Value} {F H : Hp} {Q : VK} {o : List Int → R D} {vs : List V} {ds : List D} (r : Rps K mg F vs ds) (fin : Fin K mg E F H Q (onInts o ds)) : ∃ p ns, vs = [.ref p] ∧ F p = some (.lst (ns.map V.int)) ∧ Fin K mg E F H Q (o ns) := by
  match ds, r, fin with
  | [.lst ds], .cons (.lst h q) .nil, fin =>
    have fin : Fin K mg E F H Q (match intsOf ds with | some ns => o ns | none => .bad) := fin
    cases hi : intsOf ds with
    | none => rw [hi] at fin; exact fin.elim
    | some ns =>
      rw [hi] at fin
      rw [intsOf_eq hi] at q
      exact ⟨_, ns, rfl, by rw [h, q.ints], fin⟩
theorem onBls_inv {K : PySem.W.Frag} {mg : Str → Option Value} {F H : Hp} {Q : VK} {o : List Bool → R D} {vs : List V} {ds : List D} (r : Rps K mg F vs ds) (fin : Fin K mg E F H Q (onBls o ds)) : ∃ p ns, vs = [.ref p] ∧ F p = some (.lst (ns.map V.bl)) ∧ Fin K mg E F H Q (o ns) := by
  match ds, r, fin with
  | [.lst ds], .cons (.lst h q) .nil, fin =>
    have fin : Fin K mg E F H Q (match blsOf ds with | some ns => o ns | none => .bad) := fin
    cases hi : blsOf ds with
    | none => rw [hi] at fin; exact fin.elim
    | some ns =>
      rw [hi] at fin
      rw [blsOf_eq hi] at q
      exact ⟨_, ns, rfl, by rw [h, q.bls], fin⟩
theorem cd_sum : CallD X E (rSum X.K) oSum := fun F H vs ds Q fh r fin => by
  obtain ⟨p, ns, rfl, h, fin⟩ := onInts_inv r fin
  exact ⟨p, ns, rfl, SqL.of (fh _ _ h), fin _ F H (Stp.refl fh) (.int _)⟩
theorem cd_all : CallD X E (rAll X.K) oAll := fun F H vs ds Q fh r fin => by
  obtain ⟨p, ns, rfl, h, fin⟩ := onBls_inv r fin
  exact ⟨p, ns, rfl, SqL.of (fh _ _ h), fin _ F H (Stp.refl fh) (.bl _)⟩
theorem cd_any : CallD X E (rAny X.K) oAny := fun F H vs ds Q fh r fin => by
  obtain ⟨p, ns, rfl, h, fin⟩ := onBls_inv r fin
  exact ⟨p, ns, rfl, SqL.of (fh _ _ h), fin _ F H (Stp.refl fh) (.bl _)⟩
theorem cd_abs : CallD X E (fun xs H Q => ∃ i, xs = [.int i] ∧ Q (.int (if i < 0 then -i else i)) H) oAbs := fun F H vs ds Q fh r fin => by
  match ds, r, fin with
  | [.int i], .cons (.int _) .nil, fin => exact ⟨i, rfl, fin _ F H (Stp.refl fh) (.int _)⟩
theorem maxI_spec : ∀ (ns : List Int), 0 < ns.length → maxI ns ∈ ns ∧ ∀ y ∈ ns, y ≤ maxI ns
  | [], h => by cases h
  | [x], _ => by simp [maxI]
  | x :: y :: r, _ => by
    obtain ⟨h1, h2⟩ := maxI_spec (y :: r) (by simp)
    have e : maxI (x :: y :: r) = max x (maxI (y :: r)) := rfl
    rw [e]
    constructor
    · rcases Int.le_total x (maxI (y :: r)) with h | h
      · rw [Int.max_eq_right h]; exact List.mem_cons_of_mem _ h1
      · rw [Int.max_eq_left h]; exact List.mem_cons_self
    · intro z hz
      rcases List.mem_cons.mp hz with rfl | hz
      · omega
      · have := h2 z hz; omega
theorem minI_spec : ∀ (ns : List Int), 0 < ns.length → minI ns ∈ ns ∧ ∀ y ∈ ns, minI ns ≤ y
  | [], h => by cases h
  | [x], _ => by simp [minI]
  | x :: y :: r, _ => by
    obtain ⟨h1, h2⟩ := minI_spec (y :: r) (by simp)
    have e : minI (x :: y :: r) = min x (minI (y :: r)) := rfl
    rw [e]
    constructor
    · rcases Int.le_total x (minI (y :: r)) with h | h
      · rw [Int.min_eq_left h]; exact List.mem_cons_self
      · rw [Int.min_eq_right h]; exact List.mem_cons_of_mem _ h1
    · intro z hz
      rcases List.mem_cons.mp hz with rfl | hz
      · omega
      · have := h2 z hz; omega
theorem oMax_cases {K : PySem.W.Frag} {mg : Str → Option Value} {F H : Hp} {Q : VK} {vs : List V} {ds : List D} (r : Rps K mg F vs ds) (fin : Fin K mg E F H Q (oMax ds)) :
    (∃ i j, vs = [.int i, .int j] ∧ Fin K mg E F H Q (.ok (.int (if j > i then j else i)))) ∨ Fin K mg E F H Q (onInts (fun ns => if 0 < ns.length then .ok (.int (maxI ns)) else .bad) ds) := by
  unfold oMax at fin
  split at fin
  · cases r with
    | cons r1 r2 => cases r2 with
      | cons r2 r3 => cases r1; cases r2; cases r3; exact .inl ⟨_, _, rfl, fin⟩
  · exact .inr fin
theorem oMin_cases {K : PySem.W.Frag} {mg : Str → Option Value} {F H : Hp} {Q : VK} {vs : List V} {ds : List D} (r : Rps K mg F vs ds) (fin : Fin K mg E F H Q (oMin ds)) :
    (∃ i j, vs = [.int i, .int j] ∧ Fin K mg E F H Q (.ok (.int (if j < i then j else i)))) ∨ Fin K mg E F H Q (onInts (fun ns => if 0 < ns.length then .ok (.int (minI ns)) else .bad) ds) := by
  unfold oMin at fin
  split at fin
  · cases r with
    | cons r1 r2 => cases r2 with
      | cons r2 r3 => cases r1; cases r2; cases r3; exact .inl ⟨_, _, rfl, fin⟩
  · exact .inr fin
theorem cd_max : CallD X E (fun xs H Q => (∃ i j, xs = [.int i, .int j] ∧ Q (.int (if j > i then j else i)) H) ∨ rMax X.K xs H Q) oMax := fun F H vs ds Q fh r fin => by
  rcases oMax_cases r fin with ⟨i, j, rfl, fin⟩ | fin
  · exact .inl ⟨i, j, rfl, fin _ F H (Stp.refl fh) (.int _)⟩
  · obtain ⟨p, ns, rfl, h, fin⟩ := onInts_inv r fin
    by_cases hl : 0 < ns.length
    · rw [if_pos hl] at fin
      refine .inr ⟨p, ns, rfl, SqL.of (fh _ _ h), hl, fun m hm hle => ?_⟩
      obtain ⟨h1, h2⟩ := maxI_spec ns hl
      have e : m = maxI ns := Int.le_antisymm (h2 m hm) (hle _ h1)
      rw [e]
      exact fin _ F H (Stp.refl fh) (.int _)
    · rw [if_neg hl] at fin
      exact fin.elim
theorem cd_min : CallD X E (fun xs H Q => (∃ i j, xs = [.int i, .int j] ∧ Q (.int (if j < i then j else i)) H) ∨ rMin X.K xs H Q) oMin := fun F H vs ds Q fh r fin => by
  rcases oMin_cases r fin with ⟨i, j, rfl, fin⟩ | fin
  · exact .inl ⟨i, j, rfl, fin _ F H (Stp.refl fh) (.int _)⟩
  · obtain ⟨p, ns, rfl, h, fin⟩ := onInts_inv r fin
    by_cases hl : 0 < ns.length
    · rw [if_pos hl] at fin
      refine .inr ⟨p, ns, rfl, SqL.of (fh _ _ h), hl, fun m hm hle => ?_⟩
      obtain ⟨h1, h2⟩ := minI_spec ns hl
      have e : m = minI ns := Int.le_antisymm (hle _ h1) (h2 m hm)
      rw [e]
      exact fin _ F H (Stp.refl fh) (.int _)
    · rw [if_neg hl] at fin
      exact fin.elim
theorem insI_perm (x : Int) : ∀ r : List Int, (insI x r).Perm (x :: r)
  | [] => .refl _
  | y :: r => by
    unfold insI
    by_cases h : x ≤ y
    · rw [if_pos h]
    · rw [if_neg h]
      exact ((insI_perm x r).cons y).trans (.swap x y r)
theorem isort_perm : ∀ r : List Int, (isort r).Perm r
  | [] => .refl _
  | x :: r => (insI_perm x (isort r)).trans ((isort_perm r).cons x)
theorem insI_sorted (x : Int) : ∀ r : List Int, r.Pairwise (· ≤ ·) → (insI x r).Pairwise (· ≤ ·)
  | [], _ => by unfold insI; exact List.pairwise_singleton _ _
  | y :: r, h => by
    unfold insI
    have h' := List.pairwise_cons.mp h
    by_cases hx : x ≤ y
    · rw [if_pos hx]
      refine List.pairwise_cons.mpr ⟨fun z hz => ?_, h⟩
      rcases List.mem_cons.mp hz with rfl | hz
      · exact hx
      · have := h'.1 z hz; omega
    · rw [if_neg hx]
      refine List.pairwise_cons.mpr ⟨fun z hz => ?_, insI_sorted x r h'.2⟩
      rcases List.mem_cons.mp ((insI_perm x r).mem_iff.mp hz) with rfl | hz
      · omega
      · exact h'.1 z hz
theorem isort_sorted : ∀ r : List Int, (isort r).Pairwise (· ≤ ·)
  | [] => .nil
  | x :: r => insI_sorted x _ (isort_sorted r)
theorem sort_uniq {ns ms : List Int} (hp : ms.Perm ns) (hs : ms.Pairwise (· ≤ ·)) : ms = isort ns := PySem.W.ksm_same (hp.trans (isort_perm ns).symm) hs (isort_sorted ns)
theorem cd_sorted : CallDN X E (rSortedI X.K) oSorted := fun F H vs ds Q fh r fin => by
  match ds, r, fin with
  | [.lst ds], .cons (.lst h q) .nil, fin =>
    have fin : FinN X.K X.mg E F H Q (match intsOf ds with | some ns => .ok ((isort ns).map D.int) | none => .bad) := fin
    cases hi : intsOf ds with
    | none => rw [hi] at fin; exact fin.elim
    | some ns =>
      rw [hi] at fin
      rw [intsOf_eq hi] at q
      refine ⟨_, ns, rfl, SqL.of (by rw [fh _ _ h, q.ints]), fun ns' p hp hs hn => ?_⟩
      rw [sort_uniq hp hs]
      exact fin _ _ _ _ (Stp.out fh hn) hn (fh.free hn) upd_same (Rps.ofInts _)
theorem cd_list : CallDN X E (fun xs H Q => ∃ p ys, xs = [.ref p] ∧ (SqL X.K H p ys ∨ SqT X.K H p ys) ∧ ∀ l, H l = none → Q (.ref l) (upd H l (.lst ys))) oList := fun F H vs ds Q fh r fin => by
  match ds, r, fin with
  | [.lst ds], .cons (.lst h q) .nil, fin => exact ⟨_, _, rfl, .inl (SqL.of (fh _ _ h)), fun l hl => fin _ _ _ _ (Stp.out fh hl) hl (fh.free hl) upd_same q⟩
  | [.tup ds], .cons (.tup h q) .nil, fin => exact ⟨_, _, rfl, .inr (SqT.of (fh _ _ h)), fun l hl => fin _ _ _ _ (Stp.out fh hl) hl (fh.free hl) upd_same q⟩
theorem cd_int : CallD X E (fun xs H Q => (∃ i, xs = [.int i] ∧ Q (.int i) H) ∨ ∃ k, xs = [.bl k] ∧ Q (.int (if k then 1 else 0)) H) oIntOf := fun F H vs ds Q fh r fin => by
  match ds, r, fin with
  | [.int i], .cons (.int _) .nil, fin => exact .inl ⟨i, rfl, fin _ F H (Stp.refl fh) (.int _)⟩
  | [.bl i], .cons (.bl _) .nil, fin => exact .inr ⟨i, rfl, fin _ F H (Stp.refl fh) (.int _)⟩
/-! isinstance(x, T), T a built-in class -/
theorem Rp.ty {K : PySem.W.Frag} {mg : Str → Option Value} {F H : Hp} {v : V} {d : D} {t : String} (fh : Same F H) (r : Rp K mg F v d) (h : tyD d = some t) : TyX K H v (.type t) := by
  cases r with
  | non => cases h; exact .base .non
  | bl b => cases h; exact .base (.bl b)
  | int i => cases h; exact .base (.int i)
  | str i => cases h; exact .base (.str i)
  | lst q _ => cases h; exact .base (.lst (fh _ _ q))
  | tup q _ => cases h; exact .base (.tup (fh _ _ q))
  | scr _ => cases h
  | obj _ _ _ => cases h
  | opq _ => cases h
theorem px_isi {x : Str} {T : String} {p p2 pos : Pos} (hg : Gl X "isinstance") (hm : X.mg "isinstance" = none) (hg2 : Gl X x) (hm2 : X.mg x = none) (hv : bootBuiltins x = some (.type T)) (ha : PX X E e f) (hn : x ≠ "__name__" := by decide) (hdb : (x == ("__debug__" : Str)) = false := by decide)
    (he : starEach [e, .Name x p2] X.env = (false, eval e X.env) :: starEach [.Name x p2] X.env := by rfl) (hpl : (backTo pos (starEach [.Name x p2] X.env)).any (·.1) = false := by rfl) (he2 : starEach [.Name x p2] X.env = (false, eval (.Name x p2) X.env) :: starEach [] X.env := by rfl) :
    PX X E (.Call (.Name "isinstance" p) [e, .Name x p2] [] pos) (eUn (oIsi T) f) :=
  pe_weak (pe_callB call_isi hg hm (by decide +kernel) (pa_cons ha (pa_cons (pe_bltn (v := .ty T) hg2 hm2 hv rfl hn hdb) pa_nil he2) he) (by decide) (by decide) he hpl) fun σ H Q ⟨F, ρ, fh, en, fin⟩ =>
    tX_step fh en fin fun v d F1 H1 s1 r1 fin1 => by
      unfold oIsi at fin1
      cases ht : tyD d with
      | none => rw [ht] at fin1; exact fin1.elim
      | some t =>
        rw [ht] at fin1
        simp only at fin1
        cases hk : kitB t T with
        | none => rw [hk] at fin1; exact fin1.elim
        | some k =>
          rw [hk] at fin1
          exact ⟨v, .ty T, .type t, .type T, k, rfl, .ty T, r1.ty s1.fh ht, kit_ty hk, fin1 _ F1 H1 (Stp.refl s1.fh) (.bl _)⟩
/-! list(range(..)) -/
theorem rg_ints (a b : Int) : rgV a b = (rgI a b).map V.int := by
  unfold rgV rgI
  rw [List.map_map]
  rfl
theorem rgOk.ok {a b : Int} (h : rgOk a b) : RgOk a b := by
  obtain ⟨h1, h2, h3, h4⟩ := h
  exact ⟨by omega, by omega, by omega, by omega, by omega⟩
theorem pn_listRg1 {p p2 pos pos2 : Pos} (hc : X.calm = true) (hg : Gl X "list") (hm : X.mg "list" = none) (hg2 : Gl X "range") (hm2 : X.mg "range" = none) (ha : PX X E a f) (na : starEach [a] X.env = (false, eval a X.env) :: starEach [] X.env := by rfl)
    (nb : starEach [.Call (.Name "range" p2) [a] [] pos2] X.env = (false, eval (.Call (.Name "range" p2) [a] [] pos2) X.env) :: starEach [] X.env := by rfl) : PN X E (.Call (.Name "list" p) [.Call (.Name "range" p2) [a] [] pos2] [] pos) (eUnN (oRange (.int 0)) f) :=
  pe_weak (pe_listRg hc hg hm (prg_1 hg2 hm2 ha na) nb) fun σ H Q ⟨F, ρ, fh, en, fin⟩ => tX_stepN fh en fin fun v d F1 H1 s1 r1 fin1 => by
    cases d with
    | int n =>
      cases r1
      have fin1 : FinN X.K X.mg E F1 H1 Q (if rgOk 0 n then .ok ((rgI 0 n).map D.int) else .bad) := fin1
      by_cases hl : rgOk 0 n
      · rw [if_pos hl] at fin1
        exact ⟨n, rfl, hl.ok, fun q hq => fin1 _ _ _ _ (Stp.out s1.fh hq) hq (s1.fh.free hq) upd_same (by rw [rg_ints]; exact Rps.ofInts _)⟩
      · rw [if_neg hl] at fin1
        exact fin1.elim
    | _ => exact fin1.elim
theorem pn_listRg2 {p p2 pos pos2 : Pos} (hc : X.calm = true) (hg : Gl X "list") (hm : X.mg "list" = none) (hg2 : Gl X "range") (hm2 : X.mg "range" = none) (ha : PX X E a f) (hb : PX X E b g) (na : starEach [a, b] X.env = (false, eval a X.env) :: starEach [b] X.env := by rfl) (na2 : starEach [b] X.env = (false, eval b X.env) :: starEach [] X.env := by rfl)
    (nb : starEach [.Call (.Name "range" p2) [a, b] [] pos2] X.env = (false, eval (.Call (.Name "range" p2) [a, b] [] pos2) X.env) :: starEach [] X.env := by rfl) (hpl : (backTo pos2 (starEach [b] X.env)).any (·.1) = false := by rfl) : PN X E (.Call (.Name "list" p) [.Call (.Name "range" p2) [a, b] [] pos2] [] pos) (eOpN oRange f g) :=
  pe_weak (pe_listRg hc hg hm (prg_2 hg2 hm2 ha hb na (nb := na2) (hp := hpl)) nb) fun σ H Q ⟨F, ρ, fh, en, fin⟩ => tX_stepN fh en fin fun v d F1 H1 s1 r1 fin1 => tX_stepN s1.fh (en.mono s1.f) fin1 fun w e F2 H2 s2 r2 fin2 => by
    cases d <;> cases e <;> first
      | exact fin2.elim
      | skip
    rename_i m n
    cases r1; cases r2
    have fin2 : FinN X.K X.mg E F2 H2 Q (if rgOk m n then .ok ((rgI m n).map D.int) else .bad) := fin2
    by_cases hl : rgOk m n
    · rw [if_pos hl] at fin2
      exact ⟨m, n, rfl, rfl, hl.ok, fun q hq => fin2 _ _ _ _ (Stp.out s2.fh hq) hq (s2.fh.free hq) upd_same (by rw [rg_ints]; exact Rps.ofInts _)⟩
    · rw [if_neg hl] at fin2
      exact fin2.elim
end
/-! ### calls of defs -/
def spX (K : PySem.W.Frag) (mg : Str → Option Value) (n : Nat) (f : List D → R D) : Sp := fun vs H Q E => ∃ F ds, ds.length = n ∧ Same F H ∧ Rps K mg F vs ds ∧ Fin K mg E F H Q (f ds)
def spN (K : PySem.W.Frag) (mg : Str → Option Value) (n : Nat) (f : List D → R (List D)) : Sp := fun vs H Q E => ∃ F ds, ds.length = n ∧ Same F H ∧ Rps K mg F vs ds ∧ FinN K mg E F H Q (f ds)
theorem spN.toX {K : PySem.W.Frag} {mg : Str → Option Value} {n : Nat} {f : List D → R (List D)} (vs : List V) (H : Hp) (Q : VK) (E : XK) (h : spX K mg n (fun ds => (f ds).map D.lst) vs H Q E) : spN K mg n f vs H Q E := by
  obtain ⟨F, ds, l, fh, r, fin⟩ := h
  exact ⟨F, ds, l, fh, r, Fin.ofN fin⟩
def callF {α : Type} (n : Nat) (o : List D → R α) : List D → R α := fun ds => if ds.length = n then o ds else .bad
section
variable {X : Cx} {E : XK} {CX : CXT} {k : Nat} {fa : Addr} {fd : FuncData} {ps : List Str} {x : Str} {p pos : Pos} {e : Expr} {es : List Expr} {fs : Env → R (List D)} {n : Nat}
theorem px_call {o : List D → R D} (G : FnOk X.prog X.w X.K X.mg X.base CX k fa fd ps (spX X.K X.mg n o)) (hr : Room k X.A) (hg : Gl X x) (hm : X.mg x = some (.ref fa)) (hk : PySem.W.keepIn X.K (.ref fa) = true) (hb : Binds X.K fd ps []) (hx : Passes CX X E) (ha : PXs X E (e :: es) fs) (hdb : (x == ("__debug__" : Str)) = false := by decide)
    (he : starEach (e :: es) X.env = (false, eval e X.env) :: starEach es X.env := by rfl) (hpl : (backTo pos (starEach es X.env)).any (·.1) = false := by rfl) : PX X E (.Call (.Name x p) (e :: es) [] pos) (eCall (callF n o) fs) :=
  pe_weak (pe_call G hr hg hm hk hb .nil hx ha hdb he hpl) fun σ H Q ⟨F, ρ, fh, en, fin⟩ => tXs_step fh en fin fun vs ds F1 H1 s1 r1 fin1 => by
    unfold callF at fin1
    by_cases hl : ds.length = n
    · rw [if_pos hl] at fin1
      rw [List.append_nil]
      exact ⟨F1, ds, hl, s1.fh, r1, fin1⟩
    · rw [if_neg hl] at fin1
      exact fin1.elim
theorem pn_call {o : List D → R (List D)} (G : FnOk X.prog X.w X.K X.mg X.base CX k fa fd ps (spN X.K X.mg n o)) (hr : Room k X.A) (hg : Gl X x) (hm : X.mg x = some (.ref fa)) (hk : PySem.W.keepIn X.K (.ref fa) = true) (hb : Binds X.K fd ps []) (hx : Passes CX X E) (ha : PXs X E (e :: es) fs) (hdb : (x == ("__debug__" : Str)) = false := by decide)
    (he : starEach (e :: es) X.env = (false, eval e X.env) :: starEach es X.env := by rfl) (hpl : (backTo pos (starEach es X.env)).any (·.1) = false := by rfl) : PN X E (.Call (.Name x p) (e :: es) [] pos) (eCallN (callF n o) fs) :=
  pe_weak (pe_call G hr hg hm hk hb .nil hx ha hdb he hpl) fun σ H Q ⟨F, ρ, fh, en, fin⟩ => tXs_stepN fh en fin fun vs ds F1 H1 s1 r1 fin1 => by
    unfold callF at fin1
    by_cases hl : ds.length = n
    · rw [if_pos hl] at fin1
      rw [List.append_nil]
      exact ⟨F1, ds, hl, s1.fh, r1, fin1⟩
    · rw [if_neg hl] at fin1
      exact fin1.elim
end

/-! ### targets -/
mutual
inductive Tg where
  | nm (i : Nat)
  | tp (ts : Tgs)
inductive Tgs where
  | nil
  | cons (t : Tg) (ts : Tgs)
end
mutual
def tgB : Tg → D → Option (List (Nat × D))
  | .nm i, d => some [(i, d)]
  | .tp ts, .tup ds => tgBs ts ds
  | .tp _, _ => none
def tgBs : Tgs → List D → Option (List (Nat × D))
  | .nil, [] => some []
  | .cons t ts, d :: ds => (tgB t d).bind fun a => (tgBs ts ds).map fun b => a ++ b
  | _, _ => none
end
def Tgs.len : Tgs → Nat
  | .nil => 0
  | .cons _ ts => ts.len + 1
mutual
def Tg.ix : Tg → List Nat
  | .nm i => [i]
  | .tp ts => ts.ix
def Tgs.ix : Tgs → List Nat
  | .nil => []
  | .cons t ts => t.ix ++ ts.ix
end
mutual
theorem tgB_ix : ∀ {t : Tg} {d : D} {as : List (Nat × D)}, tgB t d = some as → as.map (·.1) = t.ix
  | .nm i, d, as, h => by unfold tgB at h; cases h; rfl
  | .tp ts, .tup ds, as, h => by unfold tgB at h; unfold Tg.ix; exact tgBs_ix h
  | .tp _, .non, _, h => by unfold tgB at h; cases h
  | .tp _, .bl _, _, h => by unfold tgB at h; cases h
  | .tp _, .int _, _, h => by unfold tgB at h; cases h
  | .tp _, .str _, _, h => by unfold tgB at h; cases h
  | .tp _, .lst _, _, h => by unfold tgB at h; cases h
  | .tp _, .scr _, _, h => by unfold tgB at h; cases h
  | .tp _, .obj _ _ _, _, h => by unfold tgB at h; cases h
  | .tp _, .opq _, _, h => by unfold tgB at h; cases h
theorem tgBs_ix : ∀ {ts : Tgs} {ds : List D} {as : List (Nat × D)}, tgBs ts ds = some as → as.map (·.1) = ts.ix
  | .nil, [], as, h => by unfold tgBs at h; cases h; rfl
  | .cons t ts, d :: ds, as, h => by
    unfold tgBs at h
    cases h1 : tgB t d with
    | none => rw [h1] at h; cases h
    | some a =>
      cases h2 : tgBs ts ds with
      | none => rw [h1, h2] at h; cases h
      | some b =>
        rw [h1, h2] at h
        cases h
        unfold Tgs.ix
        rw [List.map_append, tgB_ix h1, tgBs_ix h2]
  | .nil, _ :: _, _, h => by unfold tgBs at h; cases h
  | .cons _ _, [], _, h => by unfold tgBs at h; cases h
end
def setD (ρ : Env) (as : List (Nat × D)) : Env := as.foldl (fun ρ a => ρ.set a.1 (some a.2)) ρ
def setV (σ : L2.St) (as : List (Nat × V)) : L2.St := as.foldl (fun σ a => σ.set a.1 (some a.2)) σ
theorem setV_append (σ : L2.St) (a b : List (Nat × V)) : setV σ (a ++ b) = setV (setV σ a) b := List.foldl_append
inductive AsR (K : PySem.W.Frag) (mg : Str → Option Value) (F : Hp) : List (Nat × V) → List (Nat × D) → Prop
  | nil : AsR K mg F [] []
  | cons {i : Nat} {v : V} {d : D} {ws : List (Nat × V)} {as : List (Nat × D)} : Rp K mg F v d → AsR K mg F ws as → AsR K mg F ((i, v) :: ws) ((i, d) :: as)
theorem AsR.append {K : PySem.W.Frag} {mg : Str → Option Value} {F : Hp} : ∀ {a b : List (Nat × V)} {c d : List (Nat × D)}, AsR K mg F a c → AsR K mg F b d → AsR K mg F (a ++ b) (c ++ d)
  | _, _, _, _, .nil, s => s
  | _, _, _, _, .cons h r, s => .cons h (AsR.append r s)
theorem AsR.ix {K : PySem.W.Frag} {mg : Str → Option Value} {F : Hp} : ∀ {a : List (Nat × V)} {c : List (Nat × D)}, AsR K mg F a c → a.map (·.1) = c.map (·.1)
  | _, _, .nil => rfl
  | _, _, .cons h r => by rw [List.map_cons, List.map_cons, AsR.ix r]
theorem EnvR.setAll {K : PySem.W.Frag} {mg : Str → Option Value} {F : Hp} : ∀ {ws : List (Nat × V)} {as : List (Nat × D)} {σ : L2.St} {ρ : Env}, AsR K mg F ws as → EnvR K mg F σ ρ → EnvR K mg F (setV σ ws) (setD ρ as)
  | _, _, _, _, .nil, e => e
  | _, _, σ, ρ, .cons (i := i) (v := v) (d := d) (ws := ws) (as := as) h r, e => EnvR.setAll (σ := σ.set i (some v)) (ρ := ρ.set i (some d)) r (e.set h)
def tG (K : PySem.W.Frag) (mg : Str → Option Value) (t : Tg) : TG := fun v σ H Q => ∃ F d as, Same F H ∧ Rp K mg F v d ∧ tgB t d = some as ∧ ∀ ws, AsR K mg F ws as → Q (setV σ ws) H
def tGs (K : PySem.W.Frag) (mg : Str → Option Value) (t : Tgs) : TGs := fun vs σ H Q => ∃ F ds as, Same F H ∧ Rps K mg F vs ds ∧ tgBs t ds = some as ∧ ∀ ws, AsR K mg F ws as → Q (setV σ ws) H
abbrev PXG (X : Cx) (tg : Expr) (t : Tg) : Prop := PG X tg (tG X.K X.mg t)
abbrev PXGs (X : Cx) (tg : List Expr) (t : Tgs) : Prop := PGs X tg (tGs X.K X.mg t)
theorem pg_weak {X : Cx} {e : Expr} {t t' : TG} (h : PG X e t) (w : ∀ v σ H Q, t' v σ H Q → t v σ H Q) : PG X e t' := ⟨fun pins s σ H v u Q I r q => h.run pins s σ H v u Q I r (w v σ H Q q)⟩
theorem pgs_weak {X : Cx} {e : List Expr} {t t' : TGs} (h : PGs X e t) (w : ∀ v σ H Q, t' v σ H Q → t v σ H Q) : PGs X e t' := ⟨fun pins s σ H v u Q I r q => h.run pins s σ H v u Q I r (w v σ H Q q)⟩
theorem tgBs_len {K : PySem.W.Frag} {mg : Str → Option Value} : ∀ {ts : Tgs} {ds : List D} {as : List (Nat × D)}, tgBs ts ds = some as → ds.length = ts.len
  | .nil, [], _, _ => rfl
  | .cons t ts, d :: ds, as, h => by
    unfold tgBs at h
    cases h1 : tgB t d with
    | none => rw [h1] at h; cases h
    | some a =>
      cases h2 : tgBs ts ds with
      | none => rw [h1, h2] at h; cases h
      | some b => rw [List.length_cons, tgBs_len (K := K) (mg := mg) h2]; rfl
  | .nil, _ :: _, _, h => by unfold tgBs at h; cases h
  | .cons _ _, [], _, h => by unfold tgBs at h; cases h
section
variable {X : Cx} {E : XK} {pos : Pos}
theorem pxg_nm {i : Nat} {x : Str} (hN : X.N.Nodup) (hi : X.N[i]? = some x) (hx : Loc X.env.scope x) (hf : X.fn x = true ∨ X.env.scope.names.lookup x = some .local := by first | exact .inl rfl | exact .inr rfl | assumption) : PXG X (.Name x pos) (.nm i) :=
  pg_weak (pg_name hN hi hx hf) fun v σ H Q ⟨F, d, as, fh, r, h, q⟩ => by
    unfold tgB at h
    cases h
    exact q [(i, v)] (.cons r .nil)
theorem pxgs_nil : PXGs X [] .nil := pgs_weak pgs_nil fun vs σ H Q ⟨F, ds, as, fh, r, h, q⟩ => by
  cases r with
  | nil => unfold tgBs at h; cases h; exact ⟨rfl, q [] .nil⟩
  | cons _ _ => unfold tgBs at h; cases h
theorem pxgs_cons {e : Expr} {es : List Expr} {t : Tg} {ts : Tgs} (h1 : PXG X e t) (h2 : PXGs X es ts) (hs : (assignEach (e :: es) X.env).map (·.2) = assign e X.env :: (assignEach es X.env).map (·.2) := by rfl) : PXGs X (e :: es) (.cons t ts) :=
  pgs_weak (pgs_cons h1 h2 hs) fun vs σ H Q hh => by
    obtain ⟨F, ds, as, fh, r, h, q⟩ := hh
    cases r with
    | nil => unfold tgBs at h; cases h
    | @cons v vs d ds r1 r2 =>
      unfold tgBs at h
      cases h1 : tgB t d with
      | none => rw [h1] at h; cases h
      | some a =>
        cases h2 : tgBs ts ds with
        | none => rw [h1, h2] at h; cases h
        | some b =>
          rw [h1, h2] at h
          cases h
          exact ⟨v, vs, rfl, F, d, a, fh, r1, h1, fun ws hw => ⟨F, ds, b, fh, r2, h2, fun us hu => by rw [← setV_append]; exact q _ (hw.append hu)⟩⟩
theorem pxg_tp {es : List Expr} {k : Nat} {ts : Tgs} (hc : X.calm = true) (h : PXGs X es ts) (hn : (assignEach es X.env).length = ts.len := by rfl) (hst : (assignEach es X.env).findIdx? (·.1) = none := by rfl) : PXG X (.Tuple es k pos) (.tp ts) :=
  pg_weak (pg_tup hc h hn hst) fun v σ H Q ⟨F, d, as, fh, r, h, q⟩ => by
    cases r with
    | tup ht rr =>
      unfold tgB at h
      exact ⟨_, _, rfl, SqT.of (fh _ _ ht), by rw [rr.length]; exact tgBs_len (K := X.K) (mg := X.mg) h, F, _, as, fh, rr, h, q⟩
    | _ => unfold tgB at h; cases h
end
end DL
/-! The data layer, 5: what is walked, comprehensions. -/
namespace DL
open PySem L2
/-- an iterator walks the data ds, whatever is added -/
def Goes (K : PySem.W.Frag) (mg : Str → Option Value) (J : It) (F0 : Hp) (ds : List D) : Prop := ∀ (i : Nat) (F H : Hp), Same F0 F → Same F H →
  (ds.length ≤ i → J.stop i H) ∧ ∀ d, ds[i]? = some d → J.go i H ∧ ∀ x H', J.yld i H x H' → ∃ F', Stp F H F' H' ∧ Rp K mg F' x d
def FinI (K : PySem.W.Frag) (mg : Str → Option Value) (E : XK) (F H : Hp) (Q : It → Hp → Prop) : R (List D) → Prop
  | .ok ds => ∀ J F2 H2, Stp F H F2 H2 → Goes K mg J F2 ds → Q J H2
  | .err c => ∀ C H2, Same H H2 → mg c = some (.ref C) → E (.ref C) none H2
  | .bad => False
def tXI (K : PySem.W.Frag) (mg : Str → Option Value) (E : XK) (f : Env → R (List D)) : TI := fun σ H Q => ∃ F ρ, Same F H ∧ EnvR K mg F σ ρ ∧ FinI K mg E F H Q (f ρ)
abbrev PXI (X : Cx) (E : XK) (tg e : Expr) (f : Env → R (List D)) : Prop := PI X tg e (tXI X.K X.mg E f)
theorem pi_weak {X : Cx} {tg e : Expr} {t t' : TI} (h : PI X tg e t) (w : ∀ σ H Q, t' σ H Q → t σ H Q) : PI X tg e t' := ⟨fun pins s σ H Q I q => h.run pins s σ H Q I (w σ H Q q)⟩
theorem pi_or {X : Cx} {tg e : Expr} {t t' : TI} (h : PI X tg e t) (h' : PI X tg e t') : PI X tg e (fun σ H Q => t σ H Q ∨ t' σ H Q) := ⟨fun pins s σ H Q I q => by
  rcases q with q | q
  · exact h.run pins s σ H Q I q
  · exact h'.run pins s σ H Q I q⟩
section
variable {K : PySem.W.Frag} {mg : Str → Option Value} {E : XK} {F F1 H H1 : Hp} {Q : It → Hp → Prop} {σ : L2.St} {ρ : Env}
theorem FinI.step {r : R (List D)} (s : Stp F H F1 H1) (h : FinI K mg E F H Q r) : FinI K mg E F1 H1 Q r := by
  cases r with
  | ok d => exact fun v F2 H2 s2 hr => h v F2 H2 (s.trans s2) hr
  | err c => exact fun C H2 e m => h C H2 (s.h.trans e) m
  | bad => exact h
theorem tX_stepI {Q' : VK} {f : Env → R D} {g : D → R (List D)} (fh : Same F H) (en : EnvR K mg F σ ρ) (fin : FinI K mg E F H Q ((f ρ).bind g))
    (k : ∀ v d F1 H1, Stp F H F1 H1 → Rp K mg F1 v d → FinI K mg E F1 H1 Q (g d) → Q' v H1) : tX K mg E f σ H Q' := by
  refine ⟨F, ρ, fh, en, ?_⟩
  cases hf : f ρ with
  | ok d => rw [hf] at fin; exact fun v F1 H1 st rp => k v d F1 H1 st rp (FinI.step st fin)
  | err c => rw [hf] at fin; exact fin
  | bad => rw [hf] at fin; exact fin
theorem tXs_stepI {Q' : List V → Hp → Prop} {f : Env → R (List D)} {g : List D → R (List D)} (fh : Same F H) (en : EnvR K mg F σ ρ) (fin : FinI K mg E F H Q ((f ρ).bind g))
    (k : ∀ v d F1 H1, Stp F H F1 H1 → Rps K mg F1 v d → FinI K mg E F1 H1 Q (g d) → Q' v H1) : tXs K mg E f σ H Q' := by
  refine ⟨F, ρ, fh, en, ?_⟩
  cases hf : f ρ with
  | ok d => rw [hf] at fin; exact fun v F1 H1 st rp => k v d F1 H1 st rp (FinI.step st fin)
  | err c => rw [hf] at fin; exact fin
  | bad => rw [hf] at fin; exact fin
theorem goes_list {a : Addr} {xs : List V} {ds : List D} (h : SqL K F a xs) (r : Rps K mg F xs ds) : Goes K mg (Itl K a) F ds := fun i F1 H1 e1 e2 =>
  ⟨fun hl => ⟨xs, e2.seq (e1.seq h), by rw [r.length]; exact hl⟩, fun d hd => by
    obtain ⟨v, hv, rv⟩ := r.get hd
    refine ⟨⟨xs, v, e2.seq (e1.seq h), hv⟩, fun x H' hy => ?_⟩
    obtain ⟨rfl, hy⟩ := hy
    have e : xs[i]? = some x := hy xs (e2.seq (e1.seq h))
    rw [hv] at e
    cases e
    exact ⟨F1, Stp.refl e2, rv.mono e1⟩⟩
theorem goes_tup {a : Addr} {xs : List V} {ds : List D} (h : SqT K F a xs) (r : Rps K mg F xs ds) : Goes K mg (Itt K a) F ds := fun i F1 H1 e1 e2 =>
  ⟨fun hl => ⟨xs, sqt_mono e2 (sqt_mono e1 h), by rw [r.length]; exact hl⟩, fun d hd => by
    obtain ⟨v, hv, rv⟩ := r.get hd
    refine ⟨⟨xs, v, sqt_mono e2 (sqt_mono e1 h), hv⟩, fun x H' hy => ?_⟩
    obtain ⟨rfl, hy⟩ := hy
    have e : xs[i]? = some x := hy xs (sqt_mono e2 (sqt_mono e1 h))
    rw [hv] at e
    cases e
    exact ⟨F1, Stp.refl e2, rv.mono e1⟩⟩
def rgN (lo : Int) (n : Nat) : List Int := (List.range n).map fun i => lo + (i : Nat)
theorem goes_range (lo : Int) (n : Nat) : Goes K mg (Itr lo n) F ((rgN lo n).map D.int) := fun i F1 H1 e1 e2 =>
  ⟨fun hl => by show n ≤ i; simpa [rgN] using hl, fun d hd => by
    rw [List.getElem?_map] at hd
    unfold rgN at hd
    rw [List.getElem?_map] at hd
    by_cases hi : i < n
    · rw [List.getElem?_range hi] at hd
      have hd : some (D.int (lo + (i : Int))) = some d := hd
      cases hd
      refine ⟨hi, fun x H' hy => ?_⟩
      obtain ⟨rfl, rfl⟩ := hy
      exact ⟨F1, Stp.refl e2, .int _⟩
    · rw [List.getElem?_eq_none (by simpa using hi)] at hd
      cases hd⟩
theorem goes_enum {a : Addr} {xs : List V} {ds : List D} (h : SqL K F a xs) (r : Rps K mg F xs ds) : Goes K mg (Ite K a) F (ds.mapIdx fun i d => .tup [.int (i : Nat), d]) := fun i F1 H1 e1 e2 =>
  ⟨fun hl => ⟨xs, e2.seq (e1.seq h), by rw [r.length]; simpa using hl⟩, fun d hd => by
    rw [List.getElem?_mapIdx] at hd
    cases hq : ds[i]? with
    | none => rw [hq] at hd; cases hd
    | some d0 =>
      rw [hq] at hd
      cases hd
      obtain ⟨v, hv, rv⟩ := r.get hq
      refine ⟨⟨xs, v, e2.seq (e1.seq h), hv⟩, fun x H' hy => ?_⟩
      obtain ⟨T, y, rfl, hT, rfl, hy⟩ := hy
      have e : xs[i]? = some y := hy xs (e2.seq (e1.seq h))
      rw [hv] at e
      cases e
      exact ⟨_, Stp.new e2 hT, .tup upd_same (.cons (.int _) (.cons (rv.mono (e1.trans (same_upd (e2.free hT)))) .nil))⟩⟩
theorem goes_zip {a b : Addr} {xs ys : List V} {ds es : List D} (h : SqL K F a xs) (r : Rps K mg F xs ds) (h' : SqL K F b ys) (r' : Rps K mg F ys es) : Goes K mg (Itz K a b) F (List.zipWith (fun d e => .tup [d, e]) ds es) := fun i F1 H1 e1 e2 =>
  ⟨fun hl => ⟨xs, ys, e2.seq (e1.seq h), e2.seq (e1.seq h'), by rw [r.length, r'.length]; rw [List.length_zipWith] at hl; omega⟩, fun d hd => by
    rw [List.getElem?_zipWith] at hd
    cases hq : ds[i]? with
    | none => rw [hq] at hd; cases hd
    | some d0 =>
      cases hq' : es[i]? with
      | none => rw [hq, hq'] at hd; cases hd
      | some e0 =>
        rw [hq, hq'] at hd
        cases hd
        obtain ⟨v, hv, rv⟩ := r.get hq
        obtain ⟨w, hw, rw'⟩ := r'.get hq'
        refine ⟨⟨xs, ys, v, w, e2.seq (e1.seq h), e2.seq (e1.seq h'), hv, hw⟩, fun x H' hy => ?_⟩
        obtain ⟨T, y, z, rfl, hT, rfl, hy, hz⟩ := hy
        have e : xs[i]? = some y := hy xs (e2.seq (e1.seq h))
        have e' : ys[i]? = some z := hz ys (e2.seq (e1.seq h'))
        rw [hv] at e
        rw [hw] at e'
        cases e
        cases e'
        have m := e1.trans (same_upd (o := .tup [v, w]) (e2.free hT))
        exact ⟨_, Stp.new e2 hT, .tup upd_same (.cons (rv.mono m) (.cons (rw'.mono m) .nil))⟩⟩
end
/-! meanings of what is walked -/
def itD : D → R (List D)
  | .lst ds => .ok ds
  | .tup ds => .ok ds
  | .scr ns => .ok (ns.map D.int)
  | _ => .bad
def iOf (f : Env → R D) : Env → R (List D) := fun ρ => (f ρ).bind itD
def rg1 : List D → R (List D)
  | [.int n] => if -1000000 ≤ n ∧ n ≤ 1000000 then .ok ((rgN 0 n.toNat).map D.int) else .bad
  | _ => .bad
def rg2 : List D → R (List D)
  | [.int a, .int b] => if rgOk a b then .ok ((rgN a (b - a).toNat).map D.int) else .bad
  | _ => .bad
def iEn (f : Env → R D) : Env → R (List D) := fun ρ => (f ρ).bind fun d => match d with
  | .lst ds => .ok (ds.mapIdx fun i d => .tup [.int (i : Nat), d])
  | _ => .bad
def iZi (f g : Env → R D) : Env → R (List D) := fun ρ => (f ρ).bind fun d => (g ρ).bind fun e => match d, e with
  | .lst ds, .lst es => .ok (List.zipWith (fun d e => .tup [d, e]) ds es)
  | _, _ => .bad
section
variable {X : Cx} {E : XK} {tg a b e : Expr} {f g : Env → R D} {fs : Env → R (List D)} {p pos tpos : Pos} {elts : List Expr} {kk : Nat}
theorem pxi_of (ha : PX X E e f) : PXI X E tg e (iOf f) := pi_weak (pi_or (pi_list ha) (pi_tup ha)) fun σ H Q ⟨F, ρ, fh, en, fin⟩ => by
  cases hf : f ρ with
  | bad => unfold iOf at fin; rw [hf] at fin; exact fin.elim
  | err c => unfold iOf at fin; rw [hf] at fin; exact .inl ⟨F, ρ, fh, en, by rw [hf]; exact fin⟩
  | ok d =>
    unfold iOf at fin
    rw [hf] at fin
    have fin : FinI X.K X.mg E F H Q (itD d) := fin
    cases d with
    | lst ds =>
      refine .inl ⟨F, ρ, fh, en, ?_⟩
      rw [hf]
      intro v F2 H2 s r
      cases r with
      | lst h rr => exact ⟨_, rfl, ⟨_, SqL.of (s.fh _ _ h)⟩, fin _ F2 H2 s (goes_list (SqL.of h) rr)⟩
    | scr ns =>
      refine .inl ⟨F, ρ, fh, en, ?_⟩
      rw [hf]
      intro v F2 H2 s r
      cases r with
      | scr h => exact ⟨_, rfl, ⟨_, s.fh.seq h⟩, fin _ F2 H2 s (goes_list h (Rps.ofInts _))⟩
    | tup ds =>
      refine .inr ⟨F, ρ, fh, en, ?_⟩
      rw [hf]
      intro v F2 H2 s r
      cases r with
      | tup h rr => exact ⟨_, rfl, ⟨_, SqT.of (s.fh _ _ h)⟩, fin _ F2 H2 s (goes_tup (SqT.of h) rr)⟩
    | _ => exact fin.elim
theorem pxi_rg1 (hg : Gl X "range") (hm : X.mg "range" = none) (ha : PXs X E [a] fs) (hs : starEach [a] X.env = [(false, eval a X.env)] := by rfl) : PXI X E tg (.Call (.Name "range" p) [a] [] pos) (eCallN rg1 fs) :=
  pi_weak (pi_range1 hg hm ha hs) fun σ H Q ⟨F, ρ, fh, en, fin⟩ => tXs_stepI fh en fin fun vs ds F1 H1 s1 r1 fin1 => by
    match ds, r1, fin1 with
    | [.int n], .cons (.int _) .nil, fin1 =>
      have fin1 : FinI X.K X.mg E F1 H1 Q (if -1000000 ≤ n ∧ n ≤ 1000000 then .ok ((rgN 0 n.toNat).map D.int) else .bad) := fin1
      by_cases hl : -1000000 ≤ n ∧ n ≤ 1000000
      · rw [if_pos hl] at fin1
        exact ⟨n, rfl, by omega, by omega, fin1 _ F1 H1 (Stp.refl s1.fh) (goes_range 0 n.toNat)⟩
      · rw [if_neg hl] at fin1
        exact fin1.elim
theorem pxi_rg2 (hg : Gl X "range") (hm : X.mg "range" = none) (ha : PXs X E [a, b] fs) (hs : starEach [a, b] X.env = [(false, eval a X.env), (false, eval b X.env)] := by rfl) (hs2 : starEach [b] X.env = [(false, eval b X.env)] := by rfl) : PXI X E tg (.Call (.Name "range" p) [a, b] [] pos) (eCallN rg2 fs) :=
  pi_weak (pi_range2 hg hm ha hs hs2) fun σ H Q ⟨F, ρ, fh, en, fin⟩ => tXs_stepI fh en fin fun vs ds F1 H1 s1 r1 fin1 => by
    match ds, r1, fin1 with
    | [.int m, .int n], .cons (.int _) (.cons (.int _) .nil), fin1 =>
      have fin1 : FinI X.K X.mg E F1 H1 Q (if rgOk m n then .ok ((rgN m (n - m).toNat).map D.int) else .bad) := fin1
      by_cases hl : rgOk m n
      · rw [if_pos hl] at fin1
        obtain ⟨h1, h2, h3, h4⟩ := hl
        exact ⟨m, n, rfl, ⟨by omega, by omega, by omega, by omega⟩, fin1 _ F1 H1 (Stp.refl s1.fh) (goes_range m _)⟩
      · rw [if_neg hl] at fin1
        exact fin1.elim
theorem pxi_en (hg : Gl X "enumerate") (hm : X.mg "enumerate" = none) (ha : PX X E e f) (hs : starEach [e] X.env = (false, eval e X.env) :: starEach [] X.env := by rfl) (hs' : starEach [e] X.env = [(false, eval e X.env)] := by rfl) : PXI X E (.Tuple elts kk tpos) (.Call (.Name "enumerate" p) [e] [] pos) (iEn f) :=
  pi_weak (pi_enum hg hm (pa_cons ha pa_nil hs) hs') fun σ H Q ⟨F, ρ, fh, en, fin⟩ => tX_stepI fh en fin fun v d F1 H1 s1 r1 fin1 => by
    cases d with
    | lst ds =>
      cases r1 with
      | lst h rr => exact ⟨_, _, rfl, SqL.of (s1.fh _ _ h), fin1 _ F1 H1 (Stp.refl s1.fh) (goes_enum (SqL.of h) rr)⟩
    | _ => exact fin1.elim
theorem pxi_zi (hg : Gl X "zip") (hm : X.mg "zip" = none) (ha : PX X E a f) (hb : PX X E b g) (hs : starEach [a, b] X.env = (false, eval a X.env) :: starEach [b] X.env := by rfl) (hs2 : starEach [b] X.env = (false, eval b X.env) :: starEach [] X.env := by rfl) (hpl : (backTo pos (starEach [b] X.env)).any (·.1) = false := by rfl) :
    PXI X E (.Tuple elts kk tpos) (.Call (.Name "zip" p) [a, b] [] pos) (iZi f g) :=
  pi_weak (pi_zip hg hm (pa_cons ha (pa_cons hb pa_nil hs2) hs) hs hpl) fun σ H Q ⟨F, ρ, fh, en, fin⟩ => tX_stepI fh en fin fun v d F1 H1 s1 r1 fin1 => tX_stepI s1.fh (en.mono s1.f) fin1 fun w e F2 H2 s2 r2 fin2 => by
    cases d with
    | lst ds =>
      cases e with
      | lst es =>
        have r1 := r1.mono s2.f
        cases r1 with
        | lst h rr =>
          cases r2 with
          | lst h' rr' => exact ⟨_, _, _, _, rfl, SqL.of (s2.fh _ _ h), SqL.of (s2.fh _ _ h'), fin2 _ F2 H2 (Stp.refl s2.fh) (goes_zip (SqL.of h) rr (SqL.of h') rr')⟩
      | _ => exact fin2.elim
    | _ => exact fin2.elim
end
/-! ### comprehensions -/
def noErr {α : Type} : R α → R α
  | .ok a => .ok a
  | _ => .bad
def wipeD (ρ : Env) : List Nat → Env
  | [] => ρ
  | v :: vs => (wipeD ρ vs).set v none
def lcGo (t : Tg) (tt : Env → R Bool) (te : Env → R D) (ρ : Env) : List D → R (List D)
  | [] => .ok []
  | d :: r => match tgB t d with
    | none => .bad
    | some as => (noErr (tt (setD ρ as))).bind fun b => if b then (noErr (te (setD ρ as))).bind fun y => (lcGo t tt te ρ r).bind fun ys => .ok (y :: ys) else lcGo t tt te ρ r
def eLc (it : Env → R (List D)) (t : Tg) (tt : Env → R Bool) (te : Env → R D) (vs : List Nat) : Env → R (List D) := fun ρ => (it ρ).bind fun ds => if ds.length ≤ 100000 then lcGo t tt te (wipeD ρ vs) ds else .bad
def bYes : Env → R Bool := fun _ => .ok true
section
variable {K : PySem.W.Frag} {mg : Str → Option Value} {F : Hp} {σ : L2.St} {ρ : Env}
theorem EnvR.wipe (h : EnvR K mg F σ ρ) : ∀ vs : List Nat, EnvR K mg F (L2.wipe σ vs) (wipeD ρ vs)
  | [] => h
  | v :: vs => (EnvR.wipe h vs).unset
theorem wipe_set {σ : L2.St} {i : Nat} {x : Option V} : ∀ {vs : List Nat}, i ∈ vs → L2.wipe (σ.set i x) vs = L2.wipe σ vs
  | [], h => by cases h
  | v :: vs, h => by
    unfold L2.wipe
    by_cases hi : i ∈ vs
    · rw [wipe_set hi]
    · have e : i = v := by
        rcases List.mem_cons.mp h with e | e
        · exact e
        · exact absurd e hi
      subst e
      rw [wipe_comm hi]
      rw [List.set_set]
where
  wipe_comm {σ : L2.St} {i : Nat} {x : Option V} : ∀ {vs : List Nat}, i ∉ vs → L2.wipe (σ.set i x) vs = (L2.wipe σ vs).set i x
  | [], _ => rfl
  | w :: vs, h => by
    unfold L2.wipe
    have h1 : i ≠ w := fun z => h (by rw [z]; exact List.mem_cons_self)
    have h2 : i ∉ vs := fun z => h (List.mem_cons_of_mem _ z)
    rw [wipe_comm h2, List.set_comm _ _ h1]
theorem wipe_wipe (σ : L2.St) : ∀ (us vs : List Nat), (∀ u ∈ us, u ∈ vs) → L2.wipe (L2.wipe σ us) vs = L2.wipe σ vs
  | [], _, _ => rfl
  | u :: us, vs, h => by
    show L2.wipe ((L2.wipe σ us).set u none) vs = L2.wipe σ vs
    rw [wipe_set (h u List.mem_cons_self), wipe_wipe σ us vs fun w hw => h w (List.mem_cons_of_mem _ hw)]
theorem wipe_setV {vs : List Nat} : ∀ {ws : List (Nat × V)} {σ : L2.St}, (∀ i ∈ ws.map (·.1), i ∈ vs) → L2.wipe (setV σ ws) vs = L2.wipe σ vs
  | [], _, _ => rfl
  | w :: ws, σ, h => by
    show L2.wipe (setV (σ.set w.1 (some w.2)) ws) vs = L2.wipe σ vs
    rw [wipe_setV (ws := ws) fun i hi => h i (by rw [List.map_cons]; exact List.mem_cons_of_mem _ hi), wipe_set (h w.1 (by rw [List.map_cons]; exact List.mem_cons_self))]
end
theorem lcGo_ok {t : Tg} {tt : Env → R Bool} {te : Env → R D} {ρ : Env} {d : D} {r : List D} {res : List D} (h : lcGo t tt te ρ (d :: r) = .ok res) : ∃ as, tgB t d = some as ∧
    ((tt (setD ρ as) = .ok true ∧ ∃ y ys, te (setD ρ as) = .ok y ∧ lcGo t tt te ρ r = .ok ys ∧ res = y :: ys) ∨ (tt (setD ρ as) = .ok false ∧ lcGo t tt te ρ r = .ok res)) := by
  unfold lcGo at h
  cases ha : tgB t d with
  | none => rw [ha] at h; cases h
  | some as =>
    rw [ha] at h
    refine ⟨as, rfl, ?_⟩
    simp only at h
    cases hb : tt (setD ρ as) with
    | bad => rw [hb] at h; cases h
    | err c => rw [hb] at h; cases h
    | ok b =>
      rw [hb] at h
      cases b with
      | false => exact .inr ⟨rfl, h⟩
      | true =>
        refine .inl ⟨rfl, ?_⟩
        simp only [noErr, R.bind_ok, if_true] at h
        cases hy : te (setD ρ as) with
        | bad => rw [hy] at h; cases h
        | err c => rw [hy] at h; cases h
        | ok y =>
          rw [hy] at h
          simp only [R.bind_ok] at h
          cases hr : lcGo t tt te ρ r with
          | bad => rw [hr] at h; cases h
          | err c => rw [hr] at h; cases h
          | ok ys =>
            rw [hr] at h
            cases h
            exact ⟨y, ys, rfl, rfl, rfl⟩
theorem lcGo_err {t : Tg} {tt : Env → R Bool} {te : Env → R D} {ρ : Env} : ∀ {ds : List D} {c : Str}, lcGo t tt te ρ ds ≠ .err c
  | [], c, h => by cases h
  | d :: r, c, h => by
    unfold lcGo at h
    cases ha : tgB t d with
    | none => rw [ha] at h; cases h
    | some as =>
      rw [ha] at h
      simp only at h
      cases hb : tt (setD ρ as) with
      | bad => rw [hb] at h; cases h
      | err c => rw [hb] at h; cases h
      | ok b =>
        rw [hb] at h
        cases b with
        | false => exact lcGo_err (ds := r) h
        | true =>
          simp only [noErr, R.bind_ok, if_true] at h
          cases hy : te (setD ρ as) with
          | bad => rw [hy] at h; cases h
          | err c => rw [hy] at h; cases h
          | ok y =>
            rw [hy] at h
            simp only [R.bind_ok] at h
            cases hr : lcGo t tt te ρ r with
            | bad => rw [hr] at h; cases h
            | err c => exact lcGo_err (ds := r) hr
            | ok ys => rw [hr] at h; cases h
section
variable {K : PySem.W.Frag} {mg : Str → Option Value} {E : XK}
theorem tN_lc {it : Env → R (List D)} {t : Tg} {tt : Env → R Bool} {te : Env → R D} {vs : List Nat} (hT : ∀ i ∈ t.ix, i ∈ vs) (σ : L2.St) (H : Hp) (Q : VK) (h : tN K mg E (eLc it t tt te vs) σ H Q) :
    tLc (tXI K mg E it) (tG K mg t) (tXT K mg E0 tt) (tX K mg E0 te) vs σ H Q := by
  obtain ⟨F, ρ, fh, en, fin⟩ := h
  refine ⟨F, ρ, fh, en, ?_⟩
  unfold eLc at fin
  cases hi : it ρ with
  | bad => rw [hi] at fin; exact fin
  | err c => rw [hi] at fin; exact fin
  | ok ds =>
    rw [hi] at fin
    simp only [R.bind_ok] at fin
    by_cases hl : ds.length ≤ 100000
    case neg => rw [if_neg hl] at fin; exact fin.elim
    rw [if_pos hl] at fin
    cases hg : lcGo t tt te (wipeD ρ vs) ds with
    | bad => rw [hg] at fin; exact fin.elim
    | err c => exact absurd hg lcGo_err
    | ok res =>
      rw [hg] at fin
      intro J F1 H1 s1 go Dn hD
      have hDF : F1 Dn = none := s1.fh.free hD
      have hDH : H Dn = none := s1.h.free hD
      refine ⟨fun i m H' => m = ds.length - i ∧ i ≤ ds.length ∧ ∃ F' acc outs rs, Stp F1 H1 F' H' ∧ F' Dn = none ∧ H' Dn = some (.lst acc) ∧ Rps K mg F' acc outs ∧ lcGo t tt te (wipeD ρ vs) (ds.drop i) = .ok rs ∧ outs ++ rs = res ∧ outs.length ≤ i,
        ⟨ds.length, by simp, Nat.zero_le _, F1, [], [], res, Stp.out s1.fh hD, hDF, upd_same, .nil, hg, rfl, Nat.le_refl _⟩, ?_⟩
      rintro i m H' ⟨rfl, hi', F', acc, outs, rs, st, fD, hH, ra, hgo, hres, hlen⟩
      obtain ⟨g1, g2⟩ := go i F' H' st.f st.fh
      by_cases hlt : i < ds.length
      · right
        have hd : ds[i]? = some ds[i] := List.getElem?_eq_getElem hlt
        obtain ⟨hgo1, hyld⟩ := g2 _ hd
        refine ⟨hgo1, fun H2 => ∃ F' acc outs rs, Stp F1 H1 F' H2 ∧ F' Dn = none ∧ H2 Dn = some (.lst acc) ∧ Rps K mg F' acc outs ∧ lcGo t tt te (wipeD ρ vs) (ds.drop (i + 1)) = .ok rs ∧ outs ++ rs = res ∧ outs.length ≤ i + 1, fun H2 hN => ⟨ds.length - (i + 1), by omega, rfl, hlt, hN⟩, fun x H2 hy => ?_⟩
        obtain ⟨F2, s2, r2⟩ := hyld x H2 hy
        rw [List.drop_eq_getElem_cons hlt] at hgo
        obtain ⟨as, ha, hcase⟩ := lcGo_ok hgo
        refine ⟨F2, ds[i], as, s2.fh, r2, ha, fun ws hw => ?_⟩
        have hix : ∀ j ∈ ws.map (·.1), j ∈ vs := by
          rw [hw.ix, tgB_ix ha]
          exact hT
        refine ⟨by rw [wipe_setV hix, wipe_wipe σ vs vs fun u hu => hu], ?_⟩
        have en2 : EnvR K mg F2 (setV (L2.wipe σ vs) ws) (setD (wipeD ρ vs) as) := EnvR.setAll hw (((en.mono s1.f).mono (st.f.trans s2.f)).wipe vs)
        have hD2 : ∀ F3 H3, Stp F2 H2 F3 H3 → F3 Dn = none ∧ H3 Dn = some (.lst acc) := fun F3 H3 s3 => by
          have e2 : H2 Dn = some (.lst acc) := s2.h _ _ hH
          have f2 : F2 Dn = none := (s2.old Dn (by rw [hH]; exact fun z => nomatch z)).trans fD
          exact ⟨(s3.old Dn (by rw [e2]; exact fun z => nomatch z)).trans f2, s3.h _ _ e2⟩
        refine ⟨F2, _, s2.fh, en2, ?_⟩
        rcases hcase with ⟨hb, y, ys, hy', hr, rfl⟩ | ⟨hb, hr⟩
        · rw [hb]
          intro F3 H3 s3
          rw [if_pos rfl]
          refine ⟨F3, _, s3.fh, en2.mono s3.f, ?_⟩
          rw [hy']
          intro v F4 H4 s4 r4
          obtain ⟨d1, d2⟩ := hD2 F4 H4 (s3.trans s4)
          have st4 : Stp F1 H1 F4 H4 := (st.trans s2).trans (s3.trans s4)
          refine ⟨acc, d2, ?_, F4, acc ++ [v], outs ++ [y], ys, ⟨fun b o q => ?_, st4.f, same_upd2 st4.fh d1, st4.old⟩, d1, upd_same, ((ra.mono (s2.f.trans (s3.f.trans s4.f))).append (.cons r4 .nil)), hr, by rw [List.append_assoc]; exact hres, by rw [List.length_append]; exact Nat.succ_le_succ hlen⟩
          · rw [ra.length]
            exact Nat.lt_of_le_of_lt hlen (Nat.lt_of_lt_of_le hlt (sz hl))
          · rw [upd_ne (ne_of_none q hD)]
            exact st4.h b o q
        · rw [hb]
          intro F3 H3 s3
          rw [if_neg Bool.false_ne_true]
          obtain ⟨d1, d2⟩ := hD2 F3 H3 s3
          exact ⟨F3, acc, outs, rs, (st.trans s2).trans s3, d1, d2, ra.mono (s2.f.trans s3.f), hr, hres, Nat.le_succ_of_le hlen⟩
      · left
        have e : i = ds.length := by omega
        subst e
        rw [List.drop_length] at hgo
        cases hgo
        rw [List.append_nil] at hres
        subst hres
        exact ⟨g1 (Nat.le_refl _), fin Dn acc F' H' (s1.trans st) hDH fD hH ra⟩
end
section
variable {X : Cx} {E : XK}
abbrev PXTs (X : Cx) (E : XK) (ifs : List Expr) (f : Env → R Bool) : Prop := PTs X ifs (tXT X.K X.mg E f)
theorem pts_weak {X : Cx} {e : List Expr} {t t' : TT} (h : PTs X e t) (w : ∀ σ H Q, t' σ H Q → t σ H Q) : PTs X e t' := ⟨fun pins s σ H Q I q => h.run pins s σ H Q I (w σ H Q q)⟩
theorem pxts_nil : PXTs X E [] bYes := pts_weak pts_nil fun σ H Q ⟨F, ρ, fh, en, fin⟩ => fin F H (Stp.refl fh)
theorem pxts_one {c : Expr} {t : Env → R Bool} (h : PXT X E c t) : PXTs X E [c] t := pts_one h
theorem pn_lc {elt tg iter : Expr} {ifs : List Expr} {scope : Scope} {own : List (Str × Nat)} {pos : Pos} {it : Env → R (List D)} {t : Tg} {tt : Env → R Bool} {te : Env → R D} (hc : X.calm = true) (hN : X.N.Nodup) (hi : PXI X E tg iter it) (ok : BlkOk X.N X.env.scope scope own)
    (hg : ∀ (s : Shared) (H : Hp) (C : Addr) (cl : List (Str × Addr)) (fp : List Addr), PXG (X.blk s H scope (compEnvC scope cl C X.env) fp) tg t) (ht : ∀ (s : Shared) (H : Hp) (C : Addr) (cl : List (Str × Addr)) (fp : List Addr), PXTs (X.blk s H scope (compEnvC scope cl C X.env) fp) E0 ifs tt)
    (he : ∀ (s : Shared) (H : Hp) (C : Addr) (cl : List (Str × Addr)) (fp : List Addr), PX (X.blk s H scope (compEnvC scope cl C X.env) fp) E0 elt te) (hT : ∀ i ∈ t.ix, i ∈ own.map (·.2) := by decide) (hs : ∀ x, foldedSetIterable iter X.env x = pure x := by intro _; rfl) :
    PN X E (.ListComp elt [⟨tg, iter, ifs, 0⟩] scope pos) (eLc it t tt te (own.map (·.2))) :=
  pe_weak (pe_lc hc hN hi ok hg ht he hs) fun σ H Q h => tN_lc hT σ H Q h
end
end DL
/-! The data layer, 6: statements. -/
namespace DL
open PySem L2
inductive VE where
  | un
  | sh (d : D)
  | ow (ds : List D)
abbrev SEnv := List VE
def VE.fr : VE → Option D
  | .un => none
  | .sh d => some d
  | .ow ds => some (.lst ds)
def VE.hd : VE → Option D
  | .sh d => some d
  | _ => none
def VE.fz : VE → VE
  | .ow ds => .sh (.lst ds)
  | x => x
def frE (ρ : SEnv) : Env := ρ.map VE.fr
def hdE (ρ : SEnv) : Env := ρ.map VE.hd
inductive Out where
  | nx (ρ : SEnv)
  | bk (ρ : SEnv)
  | ct (ρ : SEnv)
  | rt (d : D)
  | rtN (ds : List D)

structure Rel (K : PySem.W.Frag) (mg : Str → Option Value) (He Fe F : Hp) (ρ : SEnv) (σ : L2.St) (H : Hp) : Prop where
  len : σ.length = ρ.length
  st : Stp Fe He F H
  var : ∀ (i : Nat) d, ρ[i]? = some (.sh d) → ∃ v, σ[i]? = some (some v) ∧ Rp K mg F v d
  own : ∀ (i : Nat) ds, ρ[i]? = some (.ow ds) → ∃ p vs, σ[i]? = some (some (.ref p)) ∧ He p = none ∧ F p = none ∧ H p = some (.lst vs) ∧ Rps K mg F vs ds
  dis : ∀ (i j : Nat) ds es p, i ≠ j → ρ[i]? = some (.ow ds) → ρ[j]? = some (.ow es) → σ[i]? = some (some (.ref p)) → σ[j]? ≠ some (some (.ref p))
section
variable {K : PySem.W.Frag} {mg : Str → Option Value} {He Fe F F2 H H2 : Hp} {ρ : SEnv} {σ : L2.St}
/-- everything may be read in the whole heap -/
theorem Rel.envFr (r : Rel K mg He Fe F ρ σ H) : EnvR K mg H σ (frE ρ) := ⟨by unfold frE; rw [List.length_map]; exact r.len, fun i d q => by
  unfold frE at q
  rw [List.getElem?_map] at q
  cases hq : ρ[i]? with
  | none => rw [hq] at q; cases q
  | some e =>
    rw [hq] at q
    cases e with
    | un => cases q
    | sh d' =>
      cases q
      obtain ⟨v, h1, h2⟩ := r.var i _ hq
      exact ⟨v, h1, h2.mono r.st.fh⟩
    | ow ds =>
      cases q
      obtain ⟨p, vs, h1, _, _, h4, h5⟩ := r.own i _ hq
      exact ⟨_, h1, .lst h4 (h5.mono r.st.fh)⟩⟩
/-- what is shared may be read in the frozen part -/
theorem Rel.envHd (r : Rel K mg He Fe F ρ σ H) : EnvR K mg F σ (hdE ρ) := ⟨by unfold hdE; rw [List.length_map]; exact r.len, fun i d q => by
  unfold hdE at q
  rw [List.getElem?_map] at q
  cases hq : ρ[i]? with
  | none => rw [hq] at q; cases q
  | some e =>
    rw [hq] at q
    cases e with
    | un => cases q
    | sh d' =>
      cases q
      exact r.var i _ hq
    | ow ds => cases q⟩
theorem Rel.grow (r : Rel K mg He Fe F ρ σ H) (e : Same H H2) : Rel K mg He Fe F ρ σ H2 :=
  ⟨r.len, ⟨r.st.h.trans e, r.st.f, r.st.fh.trans e, r.st.old⟩, r.var, fun i ds h => by
    obtain ⟨p, vs, h1, h2, h3, h4, h5⟩ := r.own i ds h
    exact ⟨p, vs, h1, h2, h3, e _ _ h4, h5⟩, r.dis⟩
theorem Rel.step (r : Rel K mg He Fe F ρ σ H) (s : Stp F H F2 H2) : Rel K mg He Fe F2 ρ σ H2 :=
  ⟨r.len, r.st.trans s, fun i d h => by
    obtain ⟨v, h1, h2⟩ := r.var i d h
    exact ⟨v, h1, h2.mono s.f⟩, fun i ds h => by
    obtain ⟨p, vs, h1, h2, h3, h4, h5⟩ := r.own i ds h
    exact ⟨p, vs, h1, h2, (s.old p (by rw [h4]; exact fun z => nomatch z)).trans h3, s.h _ _ h4, h5.mono s.f⟩, r.dis⟩
theorem get_set {α : Type} {l : List α} {i j : Nat} {x y : α} (h : (l.set i x)[j]? = some y) : (i = j ∧ y = x ∧ i < l.length) ∨ (i ≠ j ∧ l[j]? = some y) := by
  by_cases e : i = j
  · subst e
    by_cases hi : i < l.length
    · rw [List.getElem?_set_self hi] at h
      exact .inl ⟨rfl, (Option.some.inj h).symm, hi⟩
    · rw [List.getElem?_eq_none (by simpa using hi)] at h
      cases h
  · rw [List.getElem?_set_ne e] at h
    exact .inr ⟨e, h⟩
theorem Rel.setSh {i : Nat} {v : V} {d : D} (r : Rel K mg He Fe F ρ σ H) (rv : Rp K mg F v d) : Rel K mg He Fe F (ρ.set i (.sh d)) (σ.set i (some v)) H where
  len := by rw [List.length_set, List.length_set]; exact r.len
  st := r.st
  var := fun j e h => by
    rcases get_set h with ⟨rfl, e', hi⟩ | ⟨ne, h⟩
    · cases e'
      exact ⟨v, List.getElem?_set_self (by rw [r.len]; exact hi), rv⟩
    · rw [List.getElem?_set_ne ne]
      exact r.var j e h
  own := fun j e h => by
    rcases get_set h with ⟨rfl, e', hi⟩ | ⟨ne, h⟩
    · cases e'
    · rw [List.getElem?_set_ne ne]
      exact r.own j e h
  dis := fun j l ds es p hjl h1 h2 => by
    rcases get_set h1 with ⟨_, e', _⟩ | ⟨ne1, h1⟩
    · cases e'
    · rcases get_set h2 with ⟨_, e', _⟩ | ⟨ne2, h2⟩
      · cases e'
      · rw [List.getElem?_set_ne ne1, List.getElem?_set_ne ne2]
        exact r.dis j l ds es p hjl h1 h2
theorem Rel.setUn {i : Nat} {v : Option V} (r : Rel K mg He Fe F ρ σ H) : Rel K mg He Fe F (ρ.set i .un) (σ.set i v) H where
  len := by rw [List.length_set, List.length_set]; exact r.len
  st := r.st
  var := fun j e h => by
    rcases get_set h with ⟨rfl, e', hi⟩ | ⟨ne, h⟩
    · cases e'
    · rw [List.getElem?_set_ne ne]
      exact r.var j e h
  own := fun j e h => by
    rcases get_set h with ⟨rfl, e', hi⟩ | ⟨ne, h⟩
    · cases e'
    · rw [List.getElem?_set_ne ne]
      exact r.own j e h
  dis := fun j l ds es p hjl h1 h2 => by
    rcases get_set h1 with ⟨_, e', _⟩ | ⟨ne1, h1⟩
    · cases e'
    · rcases get_set h2 with ⟨_, e', _⟩ | ⟨ne2, h2⟩
      · cases e'
      · rw [List.getElem?_set_ne ne1, List.getElem?_set_ne ne2]
        exact r.dis j l ds es p hjl h1 h2
/-- a new list p, known to no slot -/
theorem Rel.setOw {i : Nat} {p : Addr} {vs : List V} {ds : List D} (r : Rel K mg He Fe F ρ σ H) (h1 : He p = none) (h2 : F p = none) (h3 : H p = some (.lst vs)) (h4 : Rps K mg F vs ds) (new : ∀ (j : Nat) es, i ≠ j → ρ[j]? = some (.ow es) → σ[j]? ≠ some (some (.ref p))) :
    Rel K mg He Fe F (ρ.set i (.ow ds)) (σ.set i (some (.ref p))) H where
  len := by rw [List.length_set, List.length_set]; exact r.len
  st := r.st
  var := fun j e h => by
    rcases get_set h with ⟨rfl, e', hi⟩ | ⟨ne, h⟩
    · cases e'
    · rw [List.getElem?_set_ne ne]
      exact r.var j e h
  own := fun j e h => by
    rcases get_set h with ⟨rfl, e', hi⟩ | ⟨ne, h⟩
    · cases e'
      exact ⟨p, vs, List.getElem?_set_self (by rw [r.len]; exact hi), h1, h2, h3, h4⟩
    · rw [List.getElem?_set_ne ne]
      exact r.own j e h
  dis := fun j l ds' es q hjl h1 h2 => by
    rcases get_set h1 with ⟨rfl, e1, hi⟩ | ⟨ne1, h1⟩
    · rcases get_set h2 with ⟨rfl, _, _⟩ | ⟨ne2, h2⟩
      · exact absurd rfl hjl
      · rw [List.getElem?_set_self (by rw [r.len]; exact hi), List.getElem?_set_ne ne2]
        intro e
        cases e
        exact new l es ne2 h2
    · rcases get_set h2 with ⟨rfl, e2, hi⟩ | ⟨ne2, h2⟩
      · rw [List.getElem?_set_self (by rw [r.len]; exact hi), List.getElem?_set_ne ne1]
        intro e e'
        cases e'
        exact new j ds' ne1 h1 e
      · rw [List.getElem?_set_ne ne1, List.getElem?_set_ne ne2]
        exact r.dis j l ds' es q hjl h1 h2
theorem Rel.fresh (r : Rel K mg He Fe F ρ σ H) {p : Addr} (h : H p = none) (j : Nat) (es : List D) (hj : ρ[j]? = some (.ow es)) : σ[j]? ≠ some (some (.ref p)) := fun e => by
  obtain ⟨q, vs, h1, _, _, h4, _⟩ := r.own j es hj
  rw [h1] at e
  cases e
  rw [h] at h4
  cases h4
/-- an owned list changes -/
theorem Rel.write {i : Nat} {p : Addr} {vs : List V} {ds es : List D} (r : Rel K mg He Fe F ρ σ H) (hi : ρ[i]? = some (.ow ds)) (hp : σ[i]? = some (some (.ref p))) (h4 : Rps K mg F vs es) : Rel K mg He Fe F (ρ.set i (.ow es)) σ (upd H p (.lst vs)) := by
  obtain ⟨q, ws, e1, e2, e3, e4, e5⟩ := r.own i ds hi
  rw [hp] at e1
  cases e1
  have hil : i < ρ.length := (List.getElem?_eq_some_iff.mp hi).1
  refine ⟨by rw [List.length_set]; exact r.len, ⟨fun b o h => by rw [upd_ne (ne_of_none h e2)]; exact r.st.h b o h, r.st.f, same_upd2 r.st.fh e3, r.st.old⟩, fun j d h => ?_, fun j d h => ?_, fun j l d1 d2 q hjl h1 h2 => ?_⟩
  · rcases get_set h with ⟨rfl, e', _⟩ | ⟨ne, h⟩
    · cases e'
    · exact r.var j d h
  · rcases get_set h with ⟨rfl, e', _⟩ | ⟨ne, h⟩
    · cases e'
      exact ⟨p, vs, hp, e2, e3, upd_same, h4⟩
    · obtain ⟨q, us, g1, g2, g3, g4, g5⟩ := r.own j d h
      have hne : q ≠ p := fun z => by
        subst z
        exact r.dis i j ds d q ne hi h hp g1
      exact ⟨q, us, g1, g2, g3, by rw [upd_ne hne]; exact g4, g5⟩
  · rcases get_set h1 with ⟨rfl, _, _⟩ | ⟨ne1, h1⟩
    · rcases get_set h2 with ⟨rfl, _, _⟩ | ⟨ne2, h2⟩
      · exact absurd rfl hjl
      · exact r.dis i l ds d2 q hjl hi h2
    · rcases get_set h2 with ⟨rfl, _, _⟩ | ⟨ne2, h2⟩
      · exact r.dis j i d1 ds q hjl h1 hi
      · exact r.dis j l d1 d2 q hjl h1 h2
/-- an owned list is frozen -/
theorem Rel.frz {i : Nat} {ds : List D} (r : Rel K mg He Fe F ρ σ H) (hi : ρ[i]? = some (.ow ds)) : ∃ F', Rel K mg He Fe F' (ρ.set i (.sh (.lst ds))) σ H := by
  obtain ⟨p, vs, e1, e2, e3, e4, e5⟩ := r.own i ds hi
  have m : Same F (upd F p (.lst vs)) := same_upd e3
  refine ⟨upd F p (.lst vs), by rw [List.length_set]; exact r.len, r.st.freeze e2 e3 e4, fun j d h => ?_, fun j d h => ?_, fun j l d1 d2 q hjl h1 h2 => ?_⟩
  · rcases get_set h with ⟨rfl, e', _⟩ | ⟨ne, h⟩
    · cases e'
      exact ⟨_, e1, .lst upd_same (e5.mono m)⟩
    · obtain ⟨v, h1, h2⟩ := r.var j d h
      exact ⟨v, h1, h2.mono m⟩
  · rcases get_set h with ⟨rfl, e', _⟩ | ⟨ne, h⟩
    · cases e'
    · obtain ⟨q, us, g1, g2, g3, g4, g5⟩ := r.own j d h
      have hne : q ≠ p := fun z => by
        subst z
        exact r.dis i j ds d q ne hi h e1 g1
      exact ⟨q, us, g1, g2, by rw [upd_ne hne]; exact g3, g4, g5.mono m⟩
  · rcases get_set h1 with ⟨rfl, e', _⟩ | ⟨ne1, h1⟩
    · cases e'
    · rcases get_set h2 with ⟨rfl, e', _⟩ | ⟨ne2, h2⟩
      · cases e'
      · exact r.dis j l d1 d2 q hjl h1 h2
def fzE (ρ : SEnv) : SEnv := ρ.map VE.fz
theorem hd_fz (ρ : SEnv) : hdE (fzE ρ) = frE ρ := by
  unfold hdE fzE frE
  rw [List.map_map]
  congr 1
  funext e
  cases e <;> rfl
theorem Rel.frzTo (r : Rel K mg He Fe F ρ σ H) : ∀ n : Nat, n ≤ ρ.length → ∃ F', Rel K mg He Fe F' ((ρ.take n).map VE.fz ++ ρ.drop n) σ H
  | 0, _ => ⟨F, by simpa using r⟩
  | n + 1, h => by
    obtain ⟨F', r'⟩ := Rel.frzTo r n (by omega)
    have hn : n < ρ.length := h
    have e0 : ρ.drop n = ρ[n] :: ρ.drop (n + 1) := List.drop_eq_getElem_cons hn
    have hl : ((ρ.take n).map VE.fz).length = n := by rw [List.length_map, List.length_take]; omega
    have e1 : ρ.take (n + 1) = ρ.take n ++ [ρ[n]] := by rw [List.take_add_one, List.getElem?_eq_getElem hn]; rfl
    rw [e0] at r'
    rw [e1, List.map_append, List.map_singleton, List.append_assoc, List.singleton_append]
    cases hq : ρ[n] with
    | un => rw [hq] at r'; exact ⟨F', r'⟩
    | sh d => rw [hq] at r'; exact ⟨F', r'⟩
    | ow ds =>
      rw [hq] at r'
      have hi : ((ρ.take n).map VE.fz ++ VE.ow ds :: ρ.drop (n + 1))[n]? = some (.ow ds) := by
        rw [List.getElem?_append_right (by omega), hl, Nat.sub_self]; rfl
      obtain ⟨F2, r2⟩ := r'.frz hi
      refine ⟨F2, ?_⟩
      have e3 : ((ρ.take n).map VE.fz ++ VE.ow ds :: ρ.drop (n + 1)).set n (.sh (.lst ds)) = (ρ.take n).map VE.fz ++ VE.sh (.lst ds) :: ρ.drop (n + 1) := by
        rw [List.set_append_right _ _ (by omega), hl, Nat.sub_self]; rfl
      rw [e3] at r2
      exact r2
theorem Rel.frzAll (r : Rel K mg He Fe F ρ σ H) : ∃ F', Rel K mg He Fe F' (fzE ρ) σ H := by
  obtain ⟨F', r'⟩ := r.frzTo ρ.length (Nat.le_refl _)
  refine ⟨F', ?_⟩
  rw [List.take_length, List.drop_length, List.append_nil] at r'
  exact r'
theorem Rel.base {F0 : Hp} (b : Same Fe F0 ∧ ∀ a, He a ≠ none → F0 a = Fe a) (r : Rel K mg He F0 F ρ σ H) : Rel K mg He Fe F ρ σ H :=
  ⟨r.len, ⟨r.st.h, b.1.trans r.st.f, r.st.fh, fun a ha => (r.st.old a ha).trans (b.2 a ha)⟩, r.var, r.own, r.dis⟩
theorem Rel.rebase (r : Rel K mg He Fe F ρ σ H) : Rel K mg He F F ρ σ H := ⟨r.len, ⟨r.st.h, Same.refl F, r.st.fh, fun _ _ => rfl⟩, r.var, r.own, r.dis⟩
end
/-! ### what a statement's end wants -/
def FinS (K : PySem.W.Frag) (mg : Str → Option Value) (E : XK) (He Fe : Hp) (Dn : Ends) : R Out → Prop
  | .ok (.nx ρ) => ∀ F σ H, Rel K mg He Fe F ρ σ H → Dn.nx σ H
  | .ok (.bk ρ) => ∀ F σ H, Rel K mg He Fe F ρ σ H → Dn.bk σ H
  | .ok (.ct ρ) => ∀ F σ H, Rel K mg He Fe F ρ σ H → Dn.ct σ H
  | .ok (.rt d) => ∀ v F H, Stp Fe He F H → Rp K mg F v d → Dn.rt v H
  | .ok (.rtN ds) => ∀ p vs F H, Stp Fe He F H → He p = none → F p = none → H p = some (.lst vs) → Rps K mg F vs ds → Dn.rt (.ref p) H
  | .err c => ∀ C H, Same He H → mg c = some (.ref C) → E (.ref C) none H
  | .bad => False
def tS (K : PySem.W.Frag) (mg : Str → Option Value) (E : XK) (S : SEnv → R Out) : TS := fun Dn σ H => ∃ He Fe F ρ, Rel K mg He Fe F ρ σ H ∧ FinS K mg E He Fe Dn (S ρ)
abbrev PXS (X : Cx) (E : XK) (st : Stmt) (S : SEnv → R Out) : Prop := PS X st (tS X.K X.mg E S)
abbrev PXSs (X : Cx) (E : XK) (st : List Stmt) (S : SEnv → R Out) : Prop := PSs X st (tS X.K X.mg E S)
/-! meanings -/
def sNext : SEnv → R Out := fun ρ => .ok (.nx ρ)
def thenS (S : SEnv → R Out) : Out → R Out
  | .nx ρ => S ρ
  | o => .ok o
def sSeq (S T : SEnv → R Out) : SEnv → R Out := fun ρ => (S ρ).bind (thenS T)
def sIf (t : Env → R Bool) (S T : SEnv → R Out) : SEnv → R Out := fun ρ => (t (frE ρ)).bind fun b => if b then S ρ else T ρ
def sAsg (i : Nat) (f : Env → R D) : SEnv → R Out := fun ρ => (f (frE ρ)).bind fun d => if flatD d then .ok (.nx (ρ.set i (.sh d))) else .bad
def sAsgH (i : Nat) (f : Env → R D) : SEnv → R Out := fun ρ => (f (hdE ρ)).bind fun d => .ok (.nx (ρ.set i (.sh d)))
def sAsgN (i : Nat) (f : Env → R (List D)) : SEnv → R Out := fun ρ => (f (frE ρ)).bind fun ds => if ds.all flatD then .ok (.nx (ρ.set i (.ow ds))) else .bad
def sAsgNH (i : Nat) (f : Env → R (List D)) : SEnv → R Out := fun ρ => (f (hdE ρ)).bind fun ds => .ok (.nx (ρ.set i (.ow ds)))
def sFrz (i : Nat) (S : SEnv → R Out) : SEnv → R Out := fun ρ => match ρ[i]? with
  | some (.ow ds) => S (ρ.set i (.sh (.lst ds)))
  | _ => S ρ
def sApp (i : Nat) (f : Env → R D) : SEnv → R Out := fun ρ => match ρ[i]? with
  | some (.ow ds) => (f (frE ρ)).bind fun d => if flatD d = true ∧ ds.length < 100000 then .ok (.nx (ρ.set i (.ow (ds ++ [d])))) else .bad
  | _ => .bad
def sAppH (i : Nat) (f : Env → R D) : SEnv → R Out := fun ρ => match ρ[i]? with
  | some (.ow ds) => (f (hdE ρ)).bind fun d => if ds.length < 100000 then .ok (.nx (ρ.set i (.ow (ds ++ [d])))) else .bad
  | _ => .bad
def sExpr (f : Env → R D) : SEnv → R Out := fun ρ => (f (frE ρ)).bind fun _ => .ok (.nx ρ)
def sRet (f : Env → R D) : SEnv → R Out := fun ρ => (f (frE ρ)).bind fun d => .ok (.rt d)
def sRetN (f : Env → R (List D)) : SEnv → R Out := fun ρ => (f (frE ρ)).bind fun d => .ok (.rtN d)
def sRetO (i : Nat) : SEnv → R Out := fun ρ => match ρ[i]? with
  | some (.ow ds) => .ok (.rtN ds)
  | _ => .bad
def sRaise (c : Str) : SEnv → R Out := fun _ => .err c
def sAug (i : Nat) (o : D → D → R D) (f : Env → R D) : SEnv → R Out := sAsg i (eOp o (eVar i) f)
def setS (ρ : SEnv) (as : List (Nat × D)) : SEnv := as.foldl (fun ρ a => ρ.set a.1 (.sh a.2)) ρ
def forGo (t : Tg) (S : SEnv → R Out) : List D → SEnv → R Out
  | [], ρ => .ok (.nx ρ)
  | d :: r, ρ => match tgB t d with
    | none => .bad
    | some as => (S (setS ρ as)).bind fun o => match o with
      | .nx ρ' => forGo t S r ρ'
      | .ct ρ' => forGo t S r ρ'
      | .bk ρ' => .ok (.nx ρ')
      | o => .ok o
def sFor (it : Env → R (List D)) (t : Tg) (S : SEnv → R Out) : SEnv → R Out := fun ρ => (it (hdE ρ)).bind fun ds => forGo t S ds ρ
def sBreak : SEnv → R Out := fun ρ => .ok (.bk ρ)
def sCont : SEnv → R Out := fun ρ => .ok (.ct ρ)
/-- a, b = the items of a value -/
def sUnp (t : Tg) (f : Env → R D) : SEnv → R Out := fun ρ => (f (hdE ρ)).bind fun d => match tgB t d with
  | some as => .ok (.nx (setS ρ as))
  | none => .bad
section
variable {K : PySem.W.Frag} {mg : Str → Option Value} {E : XK} {He Fe F H : Hp} {ρ : SEnv} {σ : L2.St} {Dn : Ends}
theorem Rp.flatAny {F F' : Hp} {v : V} {d : D} (r : Rp K mg F v d) (h : flatD d = true) : Rp K mg F' v d := by
  cases r with
  | non => exact .non
  | bl b => exact .bl b
  | int i => exact .int i
  | str x => exact .str x
  | _ => exact absurd (show false = true from h) Bool.false_ne_true
theorem Rps.flatAny {F F' : Hp} : ∀ {vs : List V} {ds : List D}, Rps K mg F vs ds → ds.all flatD = true → Rps K mg F' vs ds
  | _, _, .nil, _ => .nil
  | _, _, .cons h r, e => by
    simp only [List.all_cons, Bool.and_eq_true] at e
    exact .cons (h.flatAny e.1) (Rps.flatAny r e.2)
/-- an expression in the whole heap -/
theorem Rel.evalFr {f : Env → R D} {g : D → R Out} {Q : VK} (r : Rel K mg He Fe F ρ σ H) (fin : FinS K mg E He Fe Dn ((f (frE ρ)).bind g))
    (k : ∀ v d F2 H2, Same H H2 → Rp K mg F2 v d → FinS K mg E He Fe Dn (g d) → Q v H2) : tX K mg E f σ H Q := by
  refine ⟨H, frE ρ, Same.refl H, r.envFr, ?_⟩
  cases hf : f (frE ρ) with
  | ok d => rw [hf] at fin; exact fun v F2 H2 s rp => k v d F2 H2 s.h rp fin
  | err c => rw [hf] at fin; exact fun C H2 e m => fin C H2 (r.st.h.trans e) m
  | bad => rw [hf] at fin; exact fin
theorem Rel.evalHd {f : Env → R D} {g : D → R Out} {Q : VK} (r : Rel K mg He Fe F ρ σ H) (fin : FinS K mg E He Fe Dn ((f (hdE ρ)).bind g))
    (k : ∀ v d F2 H2, Stp F H F2 H2 → Rp K mg F2 v d → FinS K mg E He Fe Dn (g d) → Q v H2) : tX K mg E f σ H Q := by
  refine ⟨F, hdE ρ, r.st.fh, r.envHd, ?_⟩
  cases hf : f (hdE ρ) with
  | ok d => rw [hf] at fin; exact fun v F2 H2 s rp => k v d F2 H2 s rp fin
  | err c => rw [hf] at fin; exact fun C H2 e m => fin C H2 (r.st.h.trans e) m
  | bad => rw [hf] at fin; exact fin
theorem Rel.evalNFr {f : Env → R (List D)} {g : List D → R Out} {Q : VK} (r : Rel K mg He Fe F ρ σ H) (fin : FinS K mg E He Fe Dn ((f (frE ρ)).bind g))
    (k : ∀ p vs ds F2 H2, Same H H2 → H p = none → F2 p = none → H2 p = some (.lst vs) → Rps K mg F2 vs ds → FinS K mg E He Fe Dn (g ds) → Q (.ref p) H2) : tN K mg E f σ H Q := by
  refine ⟨H, frE ρ, Same.refl H, r.envFr, ?_⟩
  cases hf : f (frE ρ) with
  | ok d => rw [hf] at fin; exact fun p vs F2 H2 s h1 h2 h3 h4 => k p vs d F2 H2 s.h h1 h2 h3 h4 fin
  | err c => rw [hf] at fin; exact fun C H2 e m => fin C H2 (r.st.h.trans e) m
  | bad => rw [hf] at fin; exact fin
theorem Rel.evalNHd {f : Env → R (List D)} {g : List D → R Out} {Q : VK} (r : Rel K mg He Fe F ρ σ H) (fin : FinS K mg E He Fe Dn ((f (hdE ρ)).bind g))
    (k : ∀ p vs ds F2 H2, Stp F H F2 H2 → H p = none → F2 p = none → H2 p = some (.lst vs) → Rps K mg F2 vs ds → FinS K mg E He Fe Dn (g ds) → Q (.ref p) H2) : tN K mg E f σ H Q := by
  refine ⟨F, hdE ρ, r.st.fh, r.envHd, ?_⟩
  cases hf : f (hdE ρ) with
  | ok d => rw [hf] at fin; exact fun p vs F2 H2 s h1 h2 h3 h4 => k p vs d F2 H2 s h1 h2 h3 h4 fin
  | err c => rw [hf] at fin; exact fun C H2 e m => fin C H2 (r.st.h.trans e) m
  | bad => rw [hf] at fin; exact fin
theorem Rel.evalT {t : Env → R Bool} {g : Bool → R Out} {Q : Bool → Hp → Prop} (r : Rel K mg He Fe F ρ σ H) (fin : FinS K mg E He Fe Dn ((t (frE ρ)).bind g))
    (k : ∀ b H2, Same H H2 → FinS K mg E He Fe Dn (g b) → Q b H2) : tXT K mg E t σ H Q := by
  refine ⟨H, frE ρ, Same.refl H, r.envFr, ?_⟩
  cases hf : t (frE ρ) with
  | ok d => rw [hf] at fin; exact fun F2 H2 s => k d H2 s.h fin
  | err c => rw [hf] at fin; exact fun C H2 e m => fin C H2 (r.st.h.trans e) m
  | bad => rw [hf] at fin; exact fin
/-! readings from meanings -/
theorem tS_asg {i : Nat} {f : Env → R D} (Dn : Ends) (σ : L2.St) (H : Hp) (h : tS K mg E (sAsg i f) Dn σ H) : tAsg (tX K mg E f) (gName i) Dn σ H := by
  obtain ⟨He, Fe, F, ρ, r, fin⟩ := h
  refine r.evalFr fin fun v d F2 H2 e rp fin2 => ?_
  by_cases hf : flatD d = true
  · simp only [hf, if_true] at fin2
    exact fin2 F _ H2 ((r.grow e).setSh (rp.flatAny hf))
  · simp only [hf] at fin2
    exact fin2.elim
theorem tS_asgH {i : Nat} {f : Env → R D} (Dn : Ends) (σ : L2.St) (H : Hp) (h : tS K mg E (sAsgH i f) Dn σ H) : tAsg (tX K mg E f) (gName i) Dn σ H := by
  obtain ⟨He, Fe, F, ρ, r, fin⟩ := h
  exact r.evalHd fin fun v d F2 H2 s rp fin2 => fin2 F2 _ H2 ((r.step s).setSh rp)
theorem tS_asgN {i : Nat} {f : Env → R (List D)} (Dn : Ends) (σ : L2.St) (H : Hp) (h : tS K mg E (sAsgN i f) Dn σ H) : tAsg (tN K mg E f) (gName i) Dn σ H := by
  obtain ⟨He, Fe, F, ρ, r, fin⟩ := h
  refine r.evalNFr fin fun p vs ds F2 H2 e h1 h2 h3 h4 fin2 => ?_
  by_cases hf : ds.all flatD = true
  · simp only [hf, if_true] at fin2
    exact fin2 F _ H2 ((r.grow e).setOw (r.st.h.free h1) (r.st.fh.free h1) h3 (h4.flatAny hf) fun j es _ hj => r.fresh h1 j es hj)
  · simp only [hf] at fin2
    exact fin2.elim
theorem tS_asgNH {i : Nat} {f : Env → R (List D)} (Dn : Ends) (σ : L2.St) (H : Hp) (h : tS K mg E (sAsgNH i f) Dn σ H) : tAsg (tN K mg E f) (gName i) Dn σ H := by
  obtain ⟨He, Fe, F, ρ, r, fin⟩ := h
  refine r.evalNHd fin fun p vs ds F2 H2 s h1 h2 h3 h4 fin2 => ?_
  exact fin2 F2 _ H2 ((r.step s).setOw (r.st.h.free h1) h2 h3 h4 fun j es _ hj => r.fresh h1 j es hj)
end
section
variable {X : Cx} {E : XK} {st : Stmt} {rest : List Stmt} {S T : SEnv → R Out} {e c : Expr} {f : Env → R D} {pos : Pos}
theorem pxs_nil : PXSs X E [] sNext := pss_weak pss_nil fun Dn σ H ⟨He, Fe, F, ρ, r, fin⟩ => fin F σ H r
theorem pxs_cons (h1 : PXS X E st S) (h2 : PXSs X E rest T) : PXSs X E (st :: rest) (sSeq S T) := pss_weak (pss_cons h1 h2) fun Dn σ H ⟨He, Fe, F, ρ, r, fin⟩ => by
  refine ⟨He, Fe, F, ρ, r, ?_⟩
  unfold sSeq at fin
  cases hs : S ρ with
  | bad => rw [hs] at fin; exact fin
  | err c => rw [hs] at fin; exact fin
  | ok o =>
    rw [hs] at fin
    cases o with
    | nx ρ' => exact fun F' σ' H' r' => ⟨He, Fe, F', ρ', r', fin⟩
    | bk ρ' => exact fin
    | ct ρ' => exact fin
    | rt d => exact fin
    | rtN ds => exact fin
theorem pxs_one (h1 : PXS X E st S) : PXSs X E [st] S := pss_one h1
theorem pxs_frz (i : Nat) (h : PXSs X E rest S) : PXSs X E rest (sFrz i S) := pss_weak h fun Dn σ H ⟨He, Fe, F, ρ, r, fin⟩ => by
  unfold sFrz at fin
  split at fin
  · rename_i ds hi
    obtain ⟨F', r'⟩ := r.frz hi
    exact ⟨He, Fe, F', _, r', fin⟩
  · exact ⟨He, Fe, F, ρ, r, fin⟩
theorem pxs_pass {pos} : PXS X E (.Pass pos) sNext := ps_weak ps_pass fun Dn σ H ⟨He, Fe, F, ρ, r, fin⟩ => fin F σ H r
theorem pxs_break {pos} : PXS X E (.Break pos) sBreak := ps_weak ps_break fun Dn σ H ⟨He, Fe, F, ρ, r, fin⟩ => fin F σ H r
theorem pxs_cont {pos} : PXS X E (.Continue pos) sCont := ps_weak ps_continue fun Dn σ H ⟨He, Fe, F, ρ, r, fin⟩ => fin F σ H r
theorem pxs_expr (he : PX X E e f) (hs : swapsWith e none pos.line X.env = pure false := by rfl) : PXS X E (.Expr e pos) (sExpr f) := ps_weak (ps_expr he hs) fun Dn σ H ⟨He, Fe, F, ρ, r, fin⟩ =>
  r.evalFr fin fun v d F2 H2 e rp fin2 => fin2 F σ H2 (r.grow e)
theorem pxs_ret (he : PX X E e f) : PXS X E (.Return (some e) pos) (sRet f) := ps_weak (ps_ret he) fun Dn σ H ⟨He, Fe, F, ρ, r, fin⟩ => by
  obtain ⟨F', r'⟩ := r.frzAll
  unfold sRet at fin
  rw [← hd_fz] at fin
  exact r'.evalHd fin fun v d F2 H2 s rp fin2 => fin2 v F2 H2 (r'.st.trans s) rp
theorem pxs_retN {f : Env → R (List D)} (he : PN X E e f) : PXS X E (.Return (some e) pos) (sRetN f) := ps_weak (ps_ret he) fun Dn σ H ⟨He, Fe, F, ρ, r, fin⟩ => by
  obtain ⟨F', r'⟩ := r.frzAll
  unfold sRetN at fin
  rw [← hd_fz] at fin
  exact r'.evalNHd fin fun p vs ds F2 H2 s h1 h2 h3 h4 fin2 => fin2 p vs F2 H2 (r'.st.trans s) (r'.st.h.free h1) h2 h3 h4
theorem pxs_retO (i : Nat) {x : Str} {pos pos' : Pos} (hN : X.N[i]? = some x := by rfl) (hv : Vis X.env.scope x := by first | exact Or.inl rfl | exact Or.inr (Or.inl rfl) | exact Or.inr (Or.inr rfl)) (hd : (x == ("__debug__" : Str)) = false := by decide)
    (hcd : (x == ("__classdict__" : Str)) = false := by decide) : PXS X E (.Return (some (.Name x pos)) pos') (sRetO i) := ps_weak (ps_ret (pe_var hN hv hd hcd)) fun Dn σ H ⟨He, Fe, F, ρ, r, fin⟩ => by
  unfold sRetO at fin
  split at fin
  · rename_i ds hi
    obtain ⟨p, vs, h1, h2, h3, h4, h5⟩ := r.own i ds hi
    exact ⟨_, h1, fin p vs F H r.st h2 h3 h4 h5⟩
  · exact fin.elim
theorem pxs_if {a b : List Stmt} {t : Env → R Bool} (hc : PXT X E c t) (ha : PXSs X E a S) (hb : PXSs X E b T) : PXS X E (.If c a b pos) (sIf t S T) := ps_weak (ps_if hc ha hb) fun Dn σ H ⟨He, Fe, F, ρ, r, fin⟩ =>
  r.evalT fin fun b H2 e fin2 => by
    cases b with
    | true => rw [if_pos rfl]; exact ⟨He, Fe, F, ρ, r.grow e, fin2⟩
    | false => rw [if_neg Bool.false_ne_true]; exact ⟨He, Fe, F, ρ, r.grow e, fin2⟩
section
variable {i : Nat} {x : Str} {pos' : Pos}
theorem pxs_set (hN : X.N.Nodup) (hi : X.N[i]? = some x) (hx : Loc X.env.scope x) (he : PX X E e f) (hs : swapsWith e (some (.Name x pos')) pos.line X.env = pure false := by rfl) (hf : X.fn x = true ∨ X.env.scope.names.lookup x = some .local := by first | exact .inl rfl | exact .inr rfl | assumption) :
    PXS X E (.Assign [.Name x pos'] e pos) (sAsg i f) := ps_weak (ps_set hN hi hx he hs hf) fun Dn σ H h => tS_asg Dn σ H h
theorem pxs_setH (hN : X.N.Nodup) (hi : X.N[i]? = some x) (hx : Loc X.env.scope x) (he : PX X E e f) (hs : swapsWith e (some (.Name x pos')) pos.line X.env = pure false := by rfl) (hf : X.fn x = true ∨ X.env.scope.names.lookup x = some .local := by first | exact .inl rfl | exact .inr rfl | assumption) :
    PXS X E (.Assign [.Name x pos'] e pos) (sAsgH i f) := ps_weak (ps_set hN hi hx he hs hf) fun Dn σ H h => tS_asgH Dn σ H h
theorem pxs_setN {f : Env → R (List D)} (hN : X.N.Nodup) (hi : X.N[i]? = some x) (hx : Loc X.env.scope x) (he : PN X E e f) (hs : swapsWith e (some (.Name x pos')) pos.line X.env = pure false := by rfl) (hf : X.fn x = true ∨ X.env.scope.names.lookup x = some .local := by first | exact .inl rfl | exact .inr rfl | assumption) :
    PXS X E (.Assign [.Name x pos'] e pos) (sAsgN i f) := ps_weak (ps_set hN hi hx he hs hf) fun Dn σ H h => tS_asgN Dn σ H h
theorem pxs_setNH {f : Env → R (List D)} (hN : X.N.Nodup) (hi : X.N[i]? = some x) (hx : Loc X.env.scope x) (he : PN X E e f) (hs : swapsWith e (some (.Name x pos')) pos.line X.env = pure false := by rfl) (hf : X.fn x = true ∨ X.env.scope.names.lookup x = some .local := by first | exact .inl rfl | exact .inr rfl | assumption) :
    PXS X E (.Assign [.Name x pos'] e pos) (sAsgNH i f) := ps_weak (ps_set hN hi hx he hs hf) fun Dn σ H h => tS_asgNH Dn σ H h
end
/-! y = [.. for ..] -/
section
variable {i : Nat} {y : Str} {py : Pos} {elt tg iter : Expr} {ifs : List Expr} {scope : Scope} {own : List (Str × Nat)} {spos : Pos} {it : Env → R (List D)} {t : Tg} {tt : Env → R Bool} {te : Env → R D}
theorem pe_lcRaw (hc : X.calm = true) (hN : X.N.Nodup) (hy : X.N[i]? = some y) (hyl : X.env.scope.names.lookup y = some .local)
    (hsw : swapsWith (.ListComp elt [⟨tg, iter, ifs, 0⟩] scope pos) (some (.Name y py)) spos.line X.env = pure true) (hi : PXI X E tg iter it) (ok : BlkOk X.N X.env.scope scope own)
    (hg : ∀ (s : Shared) (H : Hp) (C : Addr) (cl : List (Str × Addr)) (fp : List Addr), PXG (X.blk s H scope (compEnvC scope cl C X.env) fp) tg t) (ht : ∀ (s : Shared) (H : Hp) (C : Addr) (cl : List (Str × Addr)) (fp : List Addr), PXTs (X.blk s H scope (compEnvC scope cl C X.env) fp) E0 ifs tt)
    (he : ∀ (s : Shared) (H : Hp) (C : Addr) (cl : List (Str × Addr)) (fp : List Addr), PX (X.blk s H scope (compEnvC scope cl C X.env) fp) E0 elt te) (hT : ∀ i ∈ t.ix, i ∈ own.map (·.2) := by decide) (hs : ∀ x, foldedSetIterable iter X.env x = pure x := by intro _; rfl) :
    PS X (.Assign [.Name y py] (.ListComp elt [⟨tg, iter, ifs, 0⟩] scope pos) spos) (tAsg (tN X.K X.mg E (eLc it t tt te (own.map (·.2)))) (gName i)) :=
  ps_weak (ps_setLc hc hN hy hyl hsw hi ok hg ht he hs) fun Dn σ H h => tN_lc hT σ H _ h
theorem pxs_lcN (h : PS X (.Assign [.Name y py] (.ListComp elt [⟨tg, iter, ifs, 0⟩] scope pos) spos) (tAsg (tN X.K X.mg E (eLc it t tt te (own.map (·.2)))) (gName i))) : PXS X E (.Assign [.Name y py] (.ListComp elt [⟨tg, iter, ifs, 0⟩] scope pos) spos) (sAsgN i (eLc it t tt te (own.map (·.2)))) :=
  ps_weak h fun Dn σ H h => tS_asgN Dn σ H h
theorem pxs_lcNH (h : PS X (.Assign [.Name y py] (.ListComp elt [⟨tg, iter, ifs, 0⟩] scope pos) spos) (tAsg (tN X.K X.mg E (eLc it t tt te (own.map (·.2)))) (gName i))) : PXS X E (.Assign [.Name y py] (.ListComp elt [⟨tg, iter, ifs, 0⟩] scope pos) spos) (sAsgNH i (eLc it t tt te (own.map (·.2)))) :=
  ps_weak h fun Dn σ H h => tS_asgNH Dn σ H h
theorem pxs_lcH (h : PS X (.Assign [.Name y py] (.ListComp elt [⟨tg, iter, ifs, 0⟩] scope pos) spos) (tAsg (tN X.K X.mg E (eLc it t tt te (own.map (·.2)))) (gName i))) : PXS X E (.Assign [.Name y py] (.ListComp elt [⟨tg, iter, ifs, 0⟩] scope pos) spos) (sAsgH i (eNew (eLc it t tt te (own.map (·.2))))) :=
  ps_weak h fun Dn σ H h => by
    obtain ⟨F, ρ, fh, en, fin⟩ := tS_asgH Dn σ H h
    exact ⟨F, ρ, fh, en, Fin.ofN fin⟩
end
/-! append -/
theorem pxs_app (i : Nat) {x : Str} {px apos cpos pos : Pos} (he : PX X E e f) (hN : X.N[i]? = some x := by rfl) (hv : Vis X.env.scope x := by first | exact Or.inl rfl | exact Or.inr (Or.inl rfl) | exact Or.inr (Or.inr rfl)) (hd : (x == ("__debug__" : Str)) = false := by decide) (hcd : (x == ("__classdict__" : Str)) = false := by decide)
    (hbase : attributeBase (.Name x px) "append" X.env (eval (.Name x px) X.env) = eval (.Name x px) X.env := by rfl)
    (hfew : ((backTo cpos (starEach [e] X.env)).all (fun x => !x.1) && (backToKw cpos (keywordEach [] X.env)).all (fun x => x.1.isSome) && decide ([e].length + ([] : List Keyword).length + (if ([] : List Keyword).isEmpty then 0 else 1) < 30)) = true := by rfl)
    (hline : (apos.endLine == cpos.line) = true := by rfl) (hs : starEach [e] X.env = (false, eval e X.env) :: starEach [] X.env := by rfl) (hplain : (backTo cpos (starEach [] X.env)).any (·.1) = false := by rfl)
    (hsw : swapsWith (.Call (.Attribute (.Name x px) "append" apos) [e] [] cpos) none pos.line X.env = pure false := by rfl) :
    PXS X E (.Expr (.Call (.Attribute (.Name x px) "append" apos) [e] [] cpos) pos) (sApp i f) :=
  ps_weak (ps_expr (pe_bm PySem.F.plainAttrs_list PySem.F.slot_list_append PySem.F.type_list_append mt_append (pe_var hN hv hd hcd) (pa_cons he pa_nil hs) hbase hfew hline hs hplain) hsw) fun Dn σ H ⟨He, Fe, F, ρ, r, fin⟩ => by
    unfold sApp at fin
    split at fin
    · rename_i ds hi
      obtain ⟨p, vs, h1, h2, h3, h4, h5⟩ := r.own i ds hi
      refine ⟨_, h1, .inl ⟨rfl, vs, SqL.of h4⟩, ?_⟩
      refine r.evalFr fin fun v d F2 H2 e rp fin2 => ?_
      by_cases hl : flatD d = true ∧ ds.length < 100000
      · rw [if_pos hl] at fin2
        refine ⟨p, vs, v, rfl, rfl, e _ _ h4, by rw [h5.length]; exact Nat.lt_of_lt_of_le hl.2 (by decide), ?_⟩
        exact fin2 F σ _ ((r.grow e).write hi h1 (h5.append (.cons (rp.flatAny hl.1) .nil)))
      · rw [if_neg hl] at fin2
        exact fin2.elim
    · exact fin.elim
theorem pxs_appH (i : Nat) {x : Str} {px apos cpos pos : Pos} (he : PX X E e f) (hN : X.N[i]? = some x := by rfl) (hv : Vis X.env.scope x := by first | exact Or.inl rfl | exact Or.inr (Or.inl rfl) | exact Or.inr (Or.inr rfl)) (hd : (x == ("__debug__" : Str)) = false := by decide) (hcd : (x == ("__classdict__" : Str)) = false := by decide)
    (hbase : attributeBase (.Name x px) "append" X.env (eval (.Name x px) X.env) = eval (.Name x px) X.env := by rfl)
    (hfew : ((backTo cpos (starEach [e] X.env)).all (fun x => !x.1) && (backToKw cpos (keywordEach [] X.env)).all (fun x => x.1.isSome) && decide ([e].length + ([] : List Keyword).length + (if ([] : List Keyword).isEmpty then 0 else 1) < 30)) = true := by rfl)
    (hline : (apos.endLine == cpos.line) = true := by rfl) (hs : starEach [e] X.env = (false, eval e X.env) :: starEach [] X.env := by rfl) (hplain : (backTo cpos (starEach [] X.env)).any (·.1) = false := by rfl)
    (hsw : swapsWith (.Call (.Attribute (.Name x px) "append" apos) [e] [] cpos) none pos.line X.env = pure false := by rfl) :
    PXS X E (.Expr (.Call (.Attribute (.Name x px) "append" apos) [e] [] cpos) pos) (sAppH i f) :=
  ps_weak (ps_expr (pe_bm PySem.F.plainAttrs_list PySem.F.slot_list_append PySem.F.type_list_append mt_append (pe_var hN hv hd hcd) (pa_cons he pa_nil hs) hbase hfew hline hs hplain) hsw) fun Dn σ H ⟨He, Fe, F, ρ, r, fin⟩ => by
    unfold sAppH at fin
    split at fin
    · rename_i ds hi
      obtain ⟨p, vs, h1, h2, h3, h4, h5⟩ := r.own i ds hi
      refine ⟨_, h1, .inl ⟨rfl, vs, SqL.of h4⟩, ?_⟩
      refine r.evalHd fin fun v d F2 H2 s rp fin2 => ?_
      by_cases hl : ds.length < 100000
      · rw [if_pos hl] at fin2
        refine ⟨p, vs, v, rfl, rfl, s.h _ _ h4, by rw [h5.length]; exact Nat.lt_of_lt_of_le hl (by decide), ?_⟩
        exact fin2 F2 σ _ ((r.step s).write hi h1 ((h5.mono s.f).append (.cons rp .nil)))
      · rw [if_neg hl] at fin2
        exact fin2.elim
    · exact fin.elim
/-! for -/
theorem Rel.setAll {K : PySem.W.Frag} {mg : Str → Option Value} {He Fe F H : Hp} : ∀ {ws : List (Nat × V)} {as : List (Nat × D)} {σ : L2.St} {ρ : SEnv}, AsR K mg F ws as → Rel K mg He Fe F ρ σ H → Rel K mg He Fe F (setS ρ as) (setV σ ws) H
  | _, _, _, _, .nil, e => e
  | _, _, σ, ρ, .cons (i := i) (v := v) (d := d) (ws := ws) (as := as) h r, e => Rel.setAll (σ := σ.set i (some v)) (ρ := ρ.set i (.sh d)) r (e.setSh h)
theorem FinS.base {K : PySem.W.Frag} {mg : Str → Option Value} {E : XK} {He Fe F0 : Hp} {Dn : Ends} {r : R Out} (b : Same Fe F0 ∧ ∀ a, He a ≠ none → F0 a = Fe a) (h : FinS K mg E He Fe Dn r) : FinS K mg E He F0 Dn r := by
  have st : ∀ {F H : Hp}, Stp F0 He F H → Stp Fe He F H := fun s => ⟨s.h, b.1.trans s.f, s.fh, fun a ha => (s.old a ha).trans (b.2 a ha)⟩
  cases r with
  | bad => exact h
  | err c => exact h
  | ok o =>
    cases o with
    | nx ρ => exact fun F σ H r => h F σ H (r.base b)
    | bk ρ => exact fun F σ H r => h F σ H (r.base b)
    | ct ρ => exact fun F σ H r => h F σ H (r.base b)
    | rt d => exact fun v F H s rp => h v F H (st s) rp
    | rtN ds => exact fun p vs F H s => h p vs F H (st s)
theorem tS_for {K : PySem.W.Frag} {mg : Str → Option Value} {it : Env → R (List D)} {t : Tg} (Dn : Ends) (σ : L2.St) (H : Hp) (h : tS K mg E (sFor it t S) Dn σ H) : tFor (tXI K mg E it) (tG K mg t) (tS K mg E S) Dn σ H := by
  obtain ⟨He, Fe, F, ρ, r, fin⟩ := h
  refine ⟨F, hdE ρ, r.st.fh, r.envHd, ?_⟩
  unfold sFor at fin
  cases hi : it (hdE ρ) with
  | bad => rw [hi] at fin; exact fin
  | err c => rw [hi] at fin; exact fun C H2 e m => fin C H2 (r.st.h.trans e) m
  | ok ds =>
    rw [hi] at fin
    have fin : FinS K mg E He Fe Dn (forGo t S ds ρ) := fin
    intro J F1 H1 s1 go
    have r1 := r.step s1
    have b1 : Same Fe F1 ∧ ∀ a, He a ≠ none → F1 a = Fe a := ⟨r1.st.f, r1.st.old⟩
    refine ⟨fun i m σ' H' => m = ds.length - i ∧ i ≤ ds.length ∧ ∃ F' ρ', Rel K mg He F1 F' ρ' σ' H' ∧ FinS K mg E He F1 Dn (forGo t S (ds.drop i) ρ'), ⟨ds.length, by simp, Nat.zero_le _, F1, ρ, r1.rebase, fin.base b1⟩, ?_⟩
    rintro i m σ' H' ⟨rfl, hi', F', ρ', r', fin'⟩
    obtain ⟨g1, g2⟩ := go i F' H' r'.st.f r'.st.fh
    by_cases hlt : i < ds.length
    · right
      have hd : ds[i]? = some ds[i] := List.getElem?_eq_getElem hlt
      obtain ⟨hgo1, hyld⟩ := g2 _ hd
      refine ⟨hgo1, fun σ2 H2 => ∃ F' ρ', Rel K mg He F1 F' ρ' σ2 H2 ∧ FinS K mg E He F1 Dn (forGo t S (ds.drop (i + 1)) ρ'), fun σ2 H2 hN => ⟨ds.length - (i + 1), by omega, rfl, hlt, hN⟩, fun x H2 hy => ?_⟩
      obtain ⟨F2, s2, rp⟩ := hyld x H2 hy
      rw [List.drop_eq_getElem_cons hlt] at fin'
      unfold forGo at fin'
      cases ha : tgB t ds[i] with
      | none => rw [ha] at fin'; exact fin'.elim
      | some as =>
        rw [ha] at fin'
        refine ⟨F2, ds[i], as, s2.fh, rp, ha, fun ws hw => ?_⟩
        refine ⟨He, F1, F2, setS ρ' as, (r'.step s2).setAll hw, ?_⟩
        simp only at fin'
        cases hs : S (setS ρ' as) with
        | bad => rw [hs] at fin'; exact fin'
        | err c => rw [hs] at fin'; exact fin'
        | ok o =>
          rw [hs] at fin'
          cases o with
          | nx ρ2 => exact fun F3 σ3 H3 r3 => ⟨F3, ρ2, r3, fin'⟩
          | ct ρ2 => exact fun F3 σ3 H3 r3 => ⟨F3, ρ2, r3, fin'⟩
          | bk ρ2 => exact fin'
          | rt d => exact fin'
          | rtN ds => exact fin'
    · left
      have e : i = ds.length := by omega
      subst e
      rw [List.drop_length] at fin'
      exact ⟨g1 (Nat.le_refl _), fin' F' σ' H' r'⟩
theorem pxs_for {tg iter : Expr} {body : List Stmt} {it : Env → R (List D)} {t : Tg} (hp : PassesOwn (model X.prog X.w) X.A X.env X.xe) (hc : X.calm = true) (hi : PXI X E tg iter it) (hg : PXG X tg t) (hb : PXSs X E body S)
    (hs : ∀ x, foldedSetIterable iter X.env x = pure x := by intro _; rfl) : PXS X E (.For tg iter body [] pos) (sFor it t S) := ps_weak (ps_for hp hc hi hg hb hs) fun Dn σ H h => tS_for Dn σ H h
/-! a, b = e -/
theorem pxs_unp {tg : Expr} {t : Tg} (he : PX X E e f) (hg : PXG X tg t) (hs : swapsWithSole [tg] e pos.line X.env = pure false := by rfl) (hw : swappedStores [tg] e X.env = pure none := by rfl) (h1 : (assignEach [tg] X.env).map (·.2) = [assign tg X.env] := by rfl) : PXS X E (.Assign [tg] e pos) (sUnp t f) :=
  ps_weak (ps_asg he hg hs hw h1) fun Dn σ H ⟨He, Fe, F, ρ, r, fin⟩ => r.evalHd fin fun v d F2 H2 s rp fin2 => by
    cases ha : tgB t d with
    | none => rw [ha] at fin2; exact fin2.elim
    | some as =>
      rw [ha] at fin2
      exact ⟨F2, d, as, (r.step s).st.fh, rp, ha, fun ws hw => fin2 F2 _ H2 ((r.step s).setAll hw)⟩
/-! raise -/
theorem pxs_raise {x m : Str} {j : Nat} {p p2 pos pos' : Pos} {C : Addr} {bmB : List Value} {B newId initId : String} (hc : X.calm = true) (tk : Takes X (fun cls d _ H => E cls d H)) (F : ExcBaseFacts B newId initId bmB) (q : PySem.W.excIn X.K C bmB newId = true) (gC : X.mg x = some (.ref C)) (kC : PySem.W.keepIn X.K (.ref C) = true) (r : Raises X (.ref C)) (hg : Gl X x)
    (hdb : (x == ("__debug__" : Str)) = false := by decide) : PXS X E (.Raise (some (.Call (.Name x p) [.Constant (.str m) j p2] [] pos)) none pos') (sRaise x) :=
  ps_weak (ps_raise hc tk (pmk_own F q gC kC r hg hdb)) fun Dn σ H ⟨He, Fe, F, ρ, r, fin⟩ => fin C H r.st.h gC
end
/-! ### a def by its body -/
def initS (n : Nat) (ds : List D) : SEnv := ds.map VE.sh ++ List.replicate (n - ds.length) VE.un
def outX : Out → R D
  | .rt d => .ok d
  | .rtN ds => .ok (.lst ds)
  | .nx _ => .ok .non
  | _ => .bad
def outN : Out → R (List D)
  | .rtN ds => .ok ds
  | _ => .bad
def runX (n : Nat) (S : SEnv → R Out) : List D → R D := fun ds => (S (initS n ds)).bind outX
def runN (n : Nat) (S : SEnv → R Out) : List D → R (List D) := fun ds => (S (initS n ds)).bind outN
section
variable {K : PySem.W.Frag} {mg : Str → Option Value} {E : XK} {F H : Hp}
theorem Rel.init {n : Nat} {vs : List V} {ds : List D} {N : List Str} (hn : N.length = n) (fh : Same F H) (r : Rps K mg F vs ds) : Rel K mg H F F (initS n ds) (L2.start N vs) H where
  len := by unfold initS L2.start; simp [r.length, hn]
  st := Stp.refl fh
  var := fun i d h => by
    unfold initS at h
    unfold L2.start
    by_cases hi : i < ds.length
    · rw [List.getElem?_append_left (by simpa using hi), List.getElem?_map, List.getElem?_eq_getElem hi] at h
      cases h
      obtain ⟨v, h1, h2⟩ := r.get (List.getElem?_eq_getElem hi)
      refine ⟨v, ?_, h2⟩
      rw [List.getElem?_append_left (by simpa [r.length] using hi), List.getElem?_map, h1]
      rfl
    · rw [List.getElem?_append_right (by simpa using hi)] at h
      rw [List.getElem?_replicate] at h
      split at h <;> cases h
  own := fun i d h => by
    unfold initS at h
    by_cases hi : i < ds.length
    · rw [List.getElem?_append_left (by simpa using hi), List.getElem?_map, List.getElem?_eq_getElem hi] at h
      cases h
    · rw [List.getElem?_append_right (by simpa using hi)] at h
      rw [List.getElem?_replicate] at h
      split at h <;> cases h
  dis := fun i j d1 d2 p _ h => by
    unfold initS at h
    by_cases hi : i < ds.length
    · rw [List.getElem?_append_left (by simpa using hi), List.getElem?_map, List.getElem?_eq_getElem hi] at h
      cases h
    · rw [List.getElem?_append_right (by simpa using hi)] at h
      rw [List.getElem?_replicate] at h
      split at h <;> cases h
end
section
variable {P : Program} {w : World} {K : PySem.W.Frag} {mg : Str → Option Value} {base : Heap}
theorem fn_x {x qual : Str} {st : Stmt} {f : Addr} {fd : FuncData} {N ps : List Str} {k : Nat} {S : SEnv → R Out} (Fu : Fun K x qual st f fd) (sc : FnScope N ps (defScope st))
    (hb : ∀ (cdv : Value) (A : Around) (outer : List PySem.Env) (s : Shared) (H : Hp) (E : XK), Room k (A.deeper (PyProof.Rows.envOfC qual (defScope st) s.heap.objs.size f cdv)) → PXSs (cxOf (L2.CX P w) P w K mg base N qual (defScope st) f cdv A outer s H E) E (defBody st) S) :
    FnOk P w K mg base (L2.CX P w) (k + 1) f fd ps (spX K mg ps.length (runX N.length S)) :=
  Fu.okX sc (fun vs H Q E h => by
    obtain ⟨F, ds, hl, _, r, _⟩ := h
    rw [r.length, hl]) fun cdv A outer s H vs Q E hr h => ⟨_, hb cdv A outer s H E hr, by
    obtain ⟨F, ds, hl, fh, r, fin⟩ := h
    refine ⟨H, F, F, initS N.length ds, Rel.init rfl fh r, ?_⟩
    unfold runX at fin
    cases hs : S (initS N.length ds) with
    | bad => rw [hs] at fin; exact fin
    | err c => rw [hs] at fin; exact fin
    | ok o =>
      rw [hs] at fin
      cases o with
      | nx ρ => exact fun F' σ H' r' => fin .non F' H' r'.st .non
      | bk ρ => exact fin.elim
      | ct ρ => exact fin.elim
      | rt d => exact fun v F' H' s rp => fin v F' H' s rp
      | rtN es => exact fun p vs F' H' s h1 h2 h3 h4 => fin (.ref p) (upd F' p (.lst vs)) H' (s.freeze h1 h2 h3) (.lst upd_same (h4.mono (same_upd h2)))⟩
theorem fn_n {x qual : Str} {st : Stmt} {f : Addr} {fd : FuncData} {N ps : List Str} {k : Nat} {S : SEnv → R Out} (Fu : Fun K x qual st f fd) (sc : FnScope N ps (defScope st))
    (hb : ∀ (cdv : Value) (A : Around) (outer : List PySem.Env) (s : Shared) (H : Hp) (E : XK), Room k (A.deeper (PyProof.Rows.envOfC qual (defScope st) s.heap.objs.size f cdv)) → PXSs (cxOf (L2.CX P w) P w K mg base N qual (defScope st) f cdv A outer s H E) E (defBody st) S) :
    FnOk P w K mg base (L2.CX P w) (k + 1) f fd ps (spN K mg ps.length (runN N.length S)) :=
  Fu.okX sc (fun vs H Q E h => by
    obtain ⟨F, ds, hl, _, r, _⟩ := h
    rw [r.length, hl]) fun cdv A outer s H vs Q E hr h => ⟨_, hb cdv A outer s H E hr, by
    obtain ⟨F, ds, hl, fh, r, fin⟩ := h
    refine ⟨H, F, F, initS N.length ds, Rel.init rfl fh r, ?_⟩
    unfold runN at fin
    cases hs : S (initS N.length ds) with
    | bad => rw [hs] at fin; exact fin
    | err c => rw [hs] at fin; exact fin
    | ok o =>
      rw [hs] at fin
      cases o with
      | nx ρ => exact fin.elim
      | bk ρ => exact fin.elim
      | ct ρ => exact fin.elim
      | rt d => exact fin.elim
      | rtN es => exact fun p vs F' H' s h1 h2 h3 h4 => fin p vs F' H' s h1 h2 h3 h4⟩
end
end DL
/-! The data layer, 7: several targets at once; x op= e; stores into an owned list; while. -/
namespace DL
open PySem L2
/-- a binding: what a slot gets -/
def bF (f : Env → R D) : SEnv → R VE := fun ρ => (f (frE ρ)).bind fun d => if flatD d then .ok (.sh d) else .bad
def bH (f : Env → R D) : SEnv → R VE := fun ρ => (f (hdE ρ)).bind fun d => .ok (.sh d)
def bN (f : Env → R (List D)) : SEnv → R VE := fun ρ => (f (frE ρ)).bind fun ds => if ds.all flatD then .ok (.ow ds) else .bad
def bNH (f : Env → R (List D)) : SEnv → R VE := fun ρ => (f (hdE ρ)).bind fun ds => .ok (.ow ds)
def bsNil : SEnv → R (List VE) := fun _ => .ok []
def bsCons (b : SEnv → R VE) (bs : SEnv → R (List VE)) : SEnv → R (List VE) := fun ρ => (b ρ).bind fun e => (bs ρ).bind fun es => .ok (e :: es)
def setB (ρ : SEnv) (as : List (Nat × VE)) : SEnv := as.foldl (fun ρ a => ρ.set a.1 a.2) ρ
def sPar (is : List Nat) (bs : SEnv → R (List VE)) : SEnv → R Out := fun ρ => (bs ρ).bind fun es => if es.length = is.length ∧ es.length ≤ 1000 then .ok (.nx (setB ρ (is.zip es))) else .bad

structure Tmp (K : PySem.W.Frag) (mg : Str → Option Value) (He Fe F : Hp) (ρ τ : SEnv) (σ : L2.St) (ts : List V) (H : Hp) : Prop where
  len : σ.length = ρ.length
  rel : Rel K mg He Fe F (ρ ++ τ) (σ ++ ts.map some) H
section
variable {K : PySem.W.Frag} {mg : Str → Option Value} {E : XK} {He Fe F F2 H H2 : Hp} {ρ τ : SEnv} {σ : L2.St} {ts : List V}
theorem Tmp.tlen (r : Tmp K mg He Fe F ρ τ σ ts H) : ts.length = τ.length := by
  have h := r.rel.len
  rw [List.length_append, List.length_append, List.length_map, r.len] at h
  omega
theorem Tmp.envFr (r : Tmp K mg He Fe F ρ τ σ ts H) : EnvR K mg H σ (frE ρ) := ⟨by unfold frE; rw [List.length_map]; exact r.len, fun i d q => by
  have hi : i < ρ.length := by
    have := (List.getElem?_eq_some_iff.mp q).1
    unfold frE at this
    rwa [List.length_map] at this
  have e := r.rel.envFr.var i d (by
    unfold frE at q ⊢
    rw [List.map_append, List.getElem?_append_left (by rw [List.length_map]; exact hi)]
    exact q)
  rwa [List.getElem?_append_left (by rw [r.len]; exact hi)] at e⟩
theorem Tmp.envHd (r : Tmp K mg He Fe F ρ τ σ ts H) : EnvR K mg F σ (hdE ρ) := ⟨by unfold hdE; rw [List.length_map]; exact r.len, fun i d q => by
  have hi : i < ρ.length := by
    have := (List.getElem?_eq_some_iff.mp q).1
    unfold hdE at this
    rwa [List.length_map] at this
  have e := r.rel.envHd.var i d (by
    unfold hdE at q ⊢
    rw [List.map_append, List.getElem?_append_left (by rw [List.length_map]; exact hi)]
    exact q)
  rwa [List.getElem?_append_left (by rw [r.len]; exact hi)] at e⟩
theorem get_snoc {α : Type} {l : List α} {x y : α} {i : Nat} (h : (l ++ [x])[i]? = some y) : (i < l.length ∧ l[i]? = some y) ∨ (i = l.length ∧ y = x) := by
  by_cases hi : i < l.length
  · rw [List.getElem?_append_left hi] at h
    exact .inl ⟨hi, h⟩
  · rw [List.getElem?_append_right (by omega)] at h
    have hl : i - l.length = 0 := by
      have := (List.getElem?_eq_some_iff.mp h).1
      simp at this
      omega
    rw [hl] at h
    exact .inr ⟨by omega, (Option.some.inj h).symm⟩
theorem Rel.snocSh {v : V} {d : D} (r : Rel K mg He Fe F ρ σ H) (rv : Rp K mg F v d) : Rel K mg He Fe F (ρ ++ [.sh d]) (σ ++ [some v]) H where
  len := by rw [List.length_append, List.length_append, r.len]; rfl
  st := r.st
  var := fun j e h => by
    rcases get_snoc h with ⟨hj, h⟩ | ⟨hj, h⟩
    · rw [List.getElem?_append_left (by rw [r.len]; exact hj)]
      exact r.var j e h
    · cases h
      refine ⟨v, ?_, rv⟩
      rw [hj, ← r.len, List.getElem?_append_right (Nat.le_refl _), Nat.sub_self]
      rfl
  own := fun j e h => by
    rcases get_snoc h with ⟨hj, h⟩ | ⟨hj, h⟩
    · rw [List.getElem?_append_left (by rw [r.len]; exact hj)]
      exact r.own j e h
    · cases h
  dis := fun j l ds es p hjl h1 h2 => by
    rcases get_snoc h1 with ⟨hj, h1⟩ | ⟨_, h1⟩
    · rcases get_snoc h2 with ⟨hl, h2⟩ | ⟨_, h2⟩
      · rw [List.getElem?_append_left (by rw [r.len]; exact hj), List.getElem?_append_left (by rw [r.len]; exact hl)]
        exact r.dis j l ds es p hjl h1 h2
      · cases h2
    · cases h1
theorem Rel.snocOw {p : Addr} {vs : List V} {ds : List D} (r : Rel K mg He Fe F ρ σ H) (h1 : He p = none) (h2 : F p = none) (h3 : H p = some (.lst vs)) (h4 : Rps K mg F vs ds) (new : ∀ (j : Nat) es, ρ[j]? = some (.ow es) → σ[j]? ≠ some (some (.ref p))) : Rel K mg He Fe F (ρ ++ [.ow ds]) (σ ++ [some (.ref p)]) H where
  len := by rw [List.length_append, List.length_append, r.len]; rfl
  st := r.st
  var := fun j e h => by
    rcases get_snoc h with ⟨hj, h⟩ | ⟨hj, h⟩
    · rw [List.getElem?_append_left (by rw [r.len]; exact hj)]
      exact r.var j e h
    · cases h
  own := fun j e h => by
    rcases get_snoc h with ⟨hj, h⟩ | ⟨hj, h⟩
    · rw [List.getElem?_append_left (by rw [r.len]; exact hj)]
      exact r.own j e h
    · cases h
      refine ⟨p, vs, ?_, h1, h2, h3, h4⟩
      rw [hj, ← r.len, List.getElem?_append_right (Nat.le_refl _), Nat.sub_self]
      rfl
  dis := fun j l ds' es q hjl h1 h2 => by
    rcases get_snoc h1 with ⟨hj, h1⟩ | ⟨hj, h1⟩
    · rcases get_snoc h2 with ⟨hl, h2⟩ | ⟨hl, h2⟩
      · rw [List.getElem?_append_left (by rw [r.len]; exact hj), List.getElem?_append_left (by rw [r.len]; exact hl)]
        exact r.dis j l ds' es q hjl h1 h2
      · rw [List.getElem?_append_left (by rw [r.len]; exact hj), hl, ← r.len, List.getElem?_append_right (Nat.le_refl _), Nat.sub_self]
        intro e e'
        cases e'
        exact new j ds' h1 e
    · rcases get_snoc h2 with ⟨hl, h2⟩ | ⟨hl, h2⟩
      · rw [List.getElem?_append_left (l₁ := σ) (i := l) (by rw [r.len]; exact hl), hj, ← r.len, List.getElem?_append_right (Nat.le_refl _), Nat.sub_self]
        intro e e'
        cases e
        exact new l es h2 e'
      · exact absurd (hj.trans hl.symm) hjl
def FinB (K : PySem.W.Frag) (mg : Str → Option Value) (E : XK) (He Fe : Hp) (ρ τ : SEnv) (σ : L2.St) (ts : List V) (Q : VK) : R VE → Prop
  | .ok e => ∀ v F2 H2, Tmp K mg He Fe F2 ρ (τ ++ [e]) σ (ts ++ [v]) H2 → Q v H2
  | .err c => ∀ C H2, Same He H2 → mg c = some (.ref C) → E (.ref C) none H2
  | .bad => False
def FinBs (K : PySem.W.Frag) (mg : Str → Option Value) (E : XK) (He Fe : Hp) (ρ τ : SEnv) (σ : L2.St) (ts : List V) (Q : List V → Hp → Prop) : R (List VE) → Prop
  | .ok es => ∀ vs F2 H2, Tmp K mg He Fe F2 ρ (τ ++ es) σ (ts ++ vs) H2 → Q vs H2
  | .err c => ∀ C H2, Same He H2 → mg c = some (.ref C) → E (.ref C) none H2
  | .bad => False
def tBd (K : PySem.W.Frag) (mg : Str → Option Value) (E : XK) (b : SEnv → R VE) : TE := fun σ H Q => ∃ He Fe F ρ τ ts, Tmp K mg He Fe F ρ τ σ ts H ∧ FinB K mg E He Fe ρ τ σ ts Q (b ρ)
def tBds (K : PySem.W.Frag) (mg : Str → Option Value) (E : XK) (b : SEnv → R (List VE)) : TA := fun σ H Q => ∃ He Fe F ρ τ ts, Tmp K mg He Fe F ρ τ σ ts H ∧ FinBs K mg E He Fe ρ τ σ ts Q (b ρ)
end
abbrev PB (X : Cx) (E : XK) (e : Expr) (b : SEnv → R VE) : Prop := PE X e (tBd X.K X.mg E b)
abbrev PBs (X : Cx) (E : XK) (es : List Expr) (b : SEnv → R (List VE)) : Prop := PA X es (tBds X.K X.mg E b)
section
variable {X : Cx} {E : XK} {e : Expr} {es : List Expr} {f : Env → R D} {g : Env → R (List D)} {b : SEnv → R VE} {bs : SEnv → R (List VE)} {pos : Pos}
theorem pb_f (he : PX X E e f) : PB X E e (bF f) := pe_weak he fun σ H Q ⟨He, Fe, F, ρ, τ, ts, r, fin⟩ => ⟨H, frE ρ, Same.refl H, r.envFr, by
  unfold bF at fin
  cases hf : f (frE ρ) with
  | bad => rw [hf] at fin; exact fin
  | err c => rw [hf] at fin; exact fun C H2 e m => fin C H2 (r.rel.st.h.trans e) m
  | ok d =>
    rw [hf] at fin
    intro v F2 H2 s rp
    simp only [R.bind_ok] at fin
    by_cases hd : flatD d = true
    · simp only [hd, if_true] at fin
      refine fin v F H2 ⟨r.len, ?_⟩
      have q := (r.rel.grow s.h).snocSh (rp.flatAny (F' := F) hd)
      rw [List.map_append, ← List.append_assoc, ← List.append_assoc]
      exact q
    · simp only [hd] at fin
      exact fin.elim⟩
theorem pb_h (he : PX X E e f) : PB X E e (bH f) := pe_weak he fun σ H Q ⟨He, Fe, F, ρ, τ, ts, r, fin⟩ => ⟨F, hdE ρ, r.rel.st.fh, r.envHd, by
  unfold bH at fin
  cases hf : f (hdE ρ) with
  | bad => rw [hf] at fin; exact fin
  | err c => rw [hf] at fin; exact fun C H2 e m => fin C H2 (r.rel.st.h.trans e) m
  | ok d =>
    rw [hf] at fin
    intro v F2 H2 s rp
    refine fin v F2 H2 ⟨r.len, ?_⟩
    have q := (r.rel.step s).snocSh rp
    rw [List.map_append, ← List.append_assoc, ← List.append_assoc]
    exact q⟩
theorem pb_n (he : PN X E e g) : PB X E e (bN g) := pe_weak he fun σ H Q ⟨He, Fe, F, ρ, τ, ts, r, fin⟩ => ⟨H, frE ρ, Same.refl H, r.envFr, by
  unfold bN at fin
  cases hf : g (frE ρ) with
  | bad => rw [hf] at fin; exact fin
  | err c => rw [hf] at fin; exact fun C H2 e m => fin C H2 (r.rel.st.h.trans e) m
  | ok ds =>
    rw [hf] at fin
    intro p vs F2 H2 s h1 h2 h3 h4
    simp only [R.bind_ok] at fin
    by_cases hd : ds.all flatD = true
    · simp only [hd, if_true] at fin
      refine fin (.ref p) F H2 ⟨r.len, ?_⟩
      have q := (r.rel.grow s.h).snocOw (r.rel.st.h.free h1) (r.rel.st.fh.free h1) h3 (h4.flatAny (F' := F) hd) fun j es hj => r.rel.fresh h1 j es hj
      rw [List.map_append, ← List.append_assoc, ← List.append_assoc]
      exact q
    · simp only [hd] at fin
      exact fin.elim⟩
theorem pb_nh (he : PN X E e g) : PB X E e (bNH g) := pe_weak he fun σ H Q ⟨He, Fe, F, ρ, τ, ts, r, fin⟩ => ⟨F, hdE ρ, r.rel.st.fh, r.envHd, by
  unfold bNH at fin
  cases hf : g (hdE ρ) with
  | bad => rw [hf] at fin; exact fin
  | err c => rw [hf] at fin; exact fun C H2 e m => fin C H2 (r.rel.st.h.trans e) m
  | ok ds =>
    rw [hf] at fin
    intro p vs F2 H2 s h1 h2 h3 h4
    refine fin (.ref p) F2 H2 ⟨r.len, ?_⟩
    have q := (r.rel.step s).snocOw (r.rel.st.h.free h1) h2 h3 h4 fun j es hj => r.rel.fresh h1 j es hj
    rw [List.map_append, ← List.append_assoc, ← List.append_assoc]
    exact q⟩
theorem pbs_nil : PBs X E [] bsNil := pa_weak pa_nil fun σ H Q ⟨He, Fe, F, ρ, τ, ts, r, fin⟩ => fin [] F H (by rw [List.append_nil, List.append_nil]; exact r)
theorem pbs_cons (h1 : PB X E e b) (h2 : PBs X E es bs) (hs : starEach (e :: es) X.env = (false, eval e X.env) :: starEach es X.env := by rfl) : PBs X E (e :: es) (bsCons b bs) := pa_weak (pa_cons h1 h2 hs) fun σ H Q ⟨He, Fe, F, ρ, τ, ts, r, fin⟩ => by
  refine ⟨He, Fe, F, ρ, τ, ts, r, ?_⟩
  unfold bsCons at fin
  cases hb : b ρ with
  | bad => rw [hb] at fin; exact fin
  | err c => rw [hb] at fin; exact fin
  | ok e0 =>
    rw [hb] at fin
    intro v F2 H2 r2
    refine ⟨He, Fe, F2, ρ, τ ++ [e0], ts ++ [v], r2, ?_⟩
    simp only [R.bind_ok] at fin
    cases hc : bs ρ with
    | bad => rw [hc] at fin; exact fin
    | err c => rw [hc] at fin; exact fin
    | ok es0 =>
      rw [hc] at fin
      intro vs F3 H3 r3
      refine fin (v :: vs) F3 H3 ?_
      rw [List.append_assoc, List.append_assoc] at r3
      exact r3
end
/-! ### moving the temporaries -/
section
variable {K : PySem.W.Frag} {mg : Str → Option Value} {He Fe F H : Hp} {ρ ρ' : SEnv} {σ σ' : L2.St}
theorem Rel.reix (r : Rel K mg He Fe F ρ σ H) (g : Nat → Nat) (hl : σ'.length = ρ'.length) (h : ∀ (i : Nat) e, ρ'[i]? = some e → e ≠ .un → ρ[g i]? = some e ∧ σ'[i]? = σ[g i]?) (inj : ∀ (i j : Nat), i < ρ'.length → j < ρ'.length → g i = g j → i = j) : Rel K mg He Fe F ρ' σ' H where
  len := hl
  st := r.st
  var := fun i d q => by
    obtain ⟨h1, h2⟩ := h i _ q (fun z => nomatch z)
    rw [h2]
    exact r.var _ d h1
  own := fun i d q => by
    obtain ⟨h1, h2⟩ := h i _ q (fun z => nomatch z)
    rw [h2]
    exact r.own _ d h1
  dis := fun i j ds es p hij q1 q2 => by
    obtain ⟨h1, h2⟩ := h i _ q1 (fun z => nomatch z)
    obtain ⟨h3, h4⟩ := h j _ q2 (fun z => nomatch z)
    rw [h2, h4]
    exact r.dis _ _ ds es p (fun z => hij (inj i j (List.getElem?_eq_some_iff.mp q1).1 (List.getElem?_eq_some_iff.mp q2).1 z)) h1 h3
theorem Tmp.move : ∀ {is : List Nat} {τ : SEnv} {ts : List V} {ρ : SEnv} {σ : L2.St}, is.length = τ.length → Tmp K mg He Fe F ρ τ σ ts H → Rel K mg He Fe F (setB ρ (is.zip τ)) (setV σ (is.zip ts)) H
  | [], [], ts, ρ, σ, _, r => by
    have e : ts = [] := by
      have := r.tlen
      exact List.length_eq_zero_iff.mp this
    subst e
    have q := r.rel
    rw [List.append_nil] at q
    show Rel K mg He Fe F ρ σ H
    simpa using q
  | i :: is, e :: τ, [], ρ, σ, _, r => by
    have := r.tlen
    cases this
  | i :: is, e :: τ, v :: ts, ρ, σ, hl, r => by
    show Rel K mg He Fe F (setB (ρ.set i e) (is.zip τ)) (setV (σ.set i (some v)) (is.zip ts)) H
    refine Tmp.move (is := is) (by simpa using hl) ⟨by rw [List.length_set, List.length_set]; exact r.len, ?_⟩
    have tl : ts.length = τ.length := by have := r.tlen; simpa using this
    refine r.rel.reix (fun j => if j < ρ.length then (if j = i then ρ.length else j) else j + 1) ?_ ?_ ?_
    · simp [r.len, tl]
    · intro j e' hj _
      by_cases hjl : j < ρ.length
      · have eσ : (σ.set i (some v) ++ ts.map some)[j]? = (σ.set i (some v))[j]? := List.getElem?_append_left (by rw [List.length_set, r.len]; exact hjl)
        have eρ : (ρ.set i e ++ τ)[j]? = (ρ.set i e)[j]? := List.getElem?_append_left (by rw [List.length_set]; exact hjl)
        rw [eρ] at hj
        rw [eσ]
        simp only [hjl, if_true]
        by_cases hji : j = i
        · subst hji
          have e1 : (ρ.set j e)[j]? = some e := List.getElem?_set_self hjl
          have e2 : (σ.set j (some v))[j]? = some (some v) := List.getElem?_set_self (by rw [r.len]; exact hjl)
          rw [e1] at hj
          cases hj
          simp only [if_true]
          have e3 : (ρ ++ e :: τ)[ρ.length]? = some e := by rw [List.getElem?_append_right (Nat.le_refl _), Nat.sub_self]; rfl
          have e4 : (σ ++ (v :: ts).map some)[ρ.length]? = some (some v) := by rw [← r.len, List.getElem?_append_right (Nat.le_refl _), Nat.sub_self]; rfl
          exact ⟨e3, e2.trans e4.symm⟩
        · simp only [hji, if_false]
          have e1 : (ρ.set i e)[j]? = ρ[j]? := List.getElem?_set_ne (Ne.symm hji)
          have e2 : (σ.set i (some v))[j]? = σ[j]? := List.getElem?_set_ne (Ne.symm hji)
          have e3 : (ρ ++ e :: τ)[j]? = ρ[j]? := List.getElem?_append_left hjl
          have e4 : (σ ++ (v :: ts).map some)[j]? = σ[j]? := List.getElem?_append_left (by rw [r.len]; exact hjl)
          exact ⟨e3.trans (e1.symm.trans hj), e2.trans e4.symm⟩
      · have eσ : (σ.set i (some v) ++ ts.map some)[j]? = (ts.map some)[j - ρ.length]? := by rw [List.getElem?_append_right (by rw [List.length_set, r.len]; omega), List.length_set, r.len]
        have eρ : (ρ.set i e ++ τ)[j]? = τ[j - ρ.length]? := by rw [List.getElem?_append_right (by rw [List.length_set]; omega), List.length_set]
        rw [eρ] at hj
        rw [eσ]
        simp only [hjl, if_false]
        have e1 : j + 1 - ρ.length = (j - ρ.length) + 1 := by omega
        have e3 : (ρ ++ e :: τ)[j + 1]? = τ[j - ρ.length]? := by rw [List.getElem?_append_right (by omega), e1]; rfl
        have e4 : (σ ++ (v :: ts).map some)[j + 1]? = (ts.map some)[j - ρ.length]? := by rw [List.getElem?_append_right (by rw [r.len]; omega), r.len, e1]; rfl
        exact ⟨e3.trans hj, e4.symm⟩
    · intro j l hj hl' q
      by_cases a1 : j < ρ.length <;> by_cases a2 : l < ρ.length <;> simp only [a1, a2, if_true, if_false] at q
      · by_cases c1 : j = i <;> by_cases c2 : l = i <;> simp only [c1, c2, if_true, if_false] at q <;> omega
      · by_cases c1 : j = i <;> simp only [c1, if_true, if_false] at q <;> omega
      · by_cases c2 : l = i <;> simp only [c2, if_true, if_false] at q <;> omega
      · omega
end
def gNames : List Nat → TGs
  | [] => gNil
  | i :: is => gCons (gName i) (gNames is)
theorem gNames_of : ∀ {is : List Nat} {vs : List V} {σ : L2.St} {H : Hp} {Q : L2.St → Hp → Prop}, is.length = vs.length → Q (setV σ (is.zip vs)) H → gNames is vs σ H Q
  | [], [], _, _, _, _, q => ⟨rfl, q⟩
  | i :: is, v :: vs, σ, H, Q, hl, q => ⟨v, vs, rfl, gNames_of (is := is) (σ := σ.set i (some v)) (by simpa using hl) q⟩
theorem tS_par {K : PySem.W.Frag} {mg : Str → Option Value} {E : XK} {is : List Nat} {bs : SEnv → R (List VE)} (Dn : Ends) (σ : L2.St) (H : Hp) (h : tS K mg E (sPar is bs) Dn σ H) :
    tBds K mg E bs σ H (fun vs H1 => vs.length = is.length ∧ vs.length ≤ 1000 ∧ ∀ H2, Same H1 H2 → Dn.nx (setV σ (is.zip vs)) H2) := by
  obtain ⟨He, Fe, F, ρ, r, fin⟩ := h
  refine ⟨He, Fe, F, ρ, [], [], ⟨r.len, by simpa using r⟩, ?_⟩
  unfold sPar at fin
  cases hb : bs ρ with
  | bad => rw [hb] at fin; exact fin
  | err c => rw [hb] at fin; exact fin
  | ok es =>
    rw [hb] at fin
    intro vs F2 H1 r2
    rw [List.nil_append, List.nil_append] at r2
    simp only [R.bind_ok] at fin
    by_cases hl : es.length = is.length ∧ es.length ≤ 1000
    · rw [if_pos hl] at fin
      have tl := r2.tlen
      exact ⟨by omega, by omega, fun H2 e => fin F2 _ H2 ((r2.move hl.1.symm).grow e)⟩
    · rw [if_neg hl] at fin
      exact fin.elim
section
variable {X : Cx} {E : XK} {bs : SEnv → R (List VE)} {pos : Pos}
theorem pxs_par {i j : Nat} {x y : Str} {a b : Expr} {px py pt : Pos} {kt k2 pt2} (hc : X.calm = true) (hN : X.N.Nodup) (hi : X.N[i]? = some x) (hj : X.N[j]? = some y) (hij : i ≠ j)
    (hx : X.env.scope.names.lookup x = some .local) (hy : X.env.scope.names.lookup y = some .local) (ha : PBs X E [a, b] bs)
    (hw : swappedStores [.Tuple [.Name x px, .Name y py] kt pt] (.Tuple [a, b] k2 pt2) X.env = pure (some [x, y]))
    (hs : swapsWithSole [.Tuple [.Name x px, .Name y py] kt pt] (.Tuple [a, b] k2 pt2) pos.line X.env = pure false := by rfl) :
    PXS X E (.Assign [.Tuple [.Name x px, .Name y py] kt pt] (.Tuple [a, b] k2 pt2) pos) (sPar [i, j] bs) :=
  ps_weak (ps_par hc hN hi hj hij hx hy ha hw hs) fun Dn σ H h => by
    obtain ⟨He, Fe, F, ρ, τ, ts, r, fin⟩ := tS_par Dn σ H h
    refine ⟨He, Fe, F, ρ, τ, ts, r, ?_⟩
    cases hb : bs ρ with
    | bad => rw [hb] at fin; exact fin
    | err c => rw [hb] at fin; exact fin
    | ok es =>
      rw [hb] at fin
      intro vs F2 H1 r2
      obtain ⟨h1, _, h2⟩ := fin vs F2 H1 r2
      match vs, h1, h2 with
      | [v, w], _, h2 => exact ⟨v, w, rfl, h2 H1 (Same.refl H1)⟩
theorem pxs_par3 {i j l : Nat} {x y z : Str} {a b c : Expr} {px py pz pt : Pos} {kt k2 pt2} (hc : X.calm = true) (hN : X.N.Nodup) (hi : X.N[i]? = some x) (hj : X.N[j]? = some y) (hl : X.N[l]? = some z) (hij : i ≠ j) (hil : i ≠ l) (hjl : j ≠ l)
    (hx : X.env.scope.names.lookup x = some .local) (hy : X.env.scope.names.lookup y = some .local) (hz : X.env.scope.names.lookup z = some .local) (ha : PBs X E [a, b, c] bs)
    (hw : swappedStores [.Tuple [.Name x px, .Name y py, .Name z pz] kt pt] (.Tuple [a, b, c] k2 pt2) X.env = pure (some [x, y, z]))
    (hs : swapsWithSole [.Tuple [.Name x px, .Name y py, .Name z pz] kt pt] (.Tuple [a, b, c] k2 pt2) pos.line X.env = pure false := by rfl) :
    PXS X E (.Assign [.Tuple [.Name x px, .Name y py, .Name z pz] kt pt] (.Tuple [a, b, c] k2 pt2) pos) (sPar [i, j, l] bs) :=
  ps_weak (ps_par3 hc hN hi hj hl hij hil hjl hx hy hz ha hw hs) fun Dn σ H h => by
    obtain ⟨He, Fe, F, ρ, τ, ts, r, fin⟩ := tS_par Dn σ H h
    refine ⟨He, Fe, F, ρ, τ, ts, r, ?_⟩
    cases hb : bs ρ with
    | bad => rw [hb] at fin; exact fin
    | err c => rw [hb] at fin; exact fin
    | ok es =>
      rw [hb] at fin
      intro vs F2 H1 r2
      obtain ⟨h1, _, h2⟩ := fin vs F2 H1 r2
      match vs, h1, h2 with
      | [u, v, w], _, h2 => exact ⟨u, v, w, rfl, h2 H1 (Same.refl H1)⟩
/-- by a tuple that is made and taken apart -/
theorem pxs_parT {is : List Nat} {es ts : List Expr} {kt k2 : Nat} {pt pt2 : Pos} (hc : X.calm = true) (ha : PBs X E es bs) (hg : PGs X ts (gNames is)) (hn : (assignEach ts X.env).length = is.length := by rfl) (hst : (assignEach ts X.env).findIdx? (·.1) = none := by rfl)
    (hs : swapsWithSole [.Tuple ts kt pt] (.Tuple es k2 pt2) pos.line X.env = pure false := by rfl) (hw : swappedStores [.Tuple ts kt pt] (.Tuple es k2 pt2) X.env = pure none := by rfl)
    (h1 : (assignEach [.Tuple ts kt pt] X.env).map (·.2) = [assign (.Tuple ts kt pt) X.env] := by rfl) : PXS X E (.Assign [.Tuple ts kt pt] (.Tuple es k2 pt2) pos) (sPar is bs) :=
  ps_weak (ps_asg (pe_tup ha) (pg_tup hc hg hn hst) hs hw h1) fun Dn σ H h => by
    obtain ⟨He, Fe, F, ρ, τ, ts, r, fin⟩ := tS_par Dn σ H h
    refine ⟨He, Fe, F, ρ, τ, ts, r, ?_⟩
    cases hb : bs ρ with
    | bad => rw [hb] at fin; exact fin
    | err c => rw [hb] at fin; exact fin
    | ok es =>
      rw [hb] at fin
      intro vs F2 H1 r2
      obtain ⟨h1, h0, h2⟩ := fin vs F2 H1 r2
      exact ⟨Nat.le_trans h0 (by decide), fun p hp => ⟨p, vs, rfl, SqT.of upd_same, h1, gNames_of h1.symm (h2 _ (same_upd hp))⟩⟩
/-! ### x op= e -/
theorem pxs_aug {i : Nat} {x : Str} {e : Expr} {f : Env → R D} {op : Operator} {r : R2} {o : D → D → R D} {pos' : Pos} (hN : X.N.Nodup) (hi : X.N[i]? = some x) (hx : Loc X.env.scope x) (he : PX X E e f) (ho : OpR X (inplaceOp op) r) (od : OpD X E r o) (hf : X.fn x = true ∨ X.env.scope.names.lookup x = some .local := by first | exact .inl rfl | exact .inr rfl | assumption)
    (hp : PS X (.AugAssign (.Name x pos') op e pos) (tAug i (tX X.K X.mg E f) r)) : PXS X E (.AugAssign (.Name x pos') op e pos) (sAug i o f) :=
  ps_weak hp fun Dn σ H ⟨He, Fe, F, ρ, r, fin⟩ => by
    unfold sAug sAsg eOp eVar at fin
    split at fin
    · rename_i d hd
      obtain ⟨v, h1, h2⟩ := r.envFr.var i d hd
      refine ⟨v, h1, H, frE ρ, Same.refl H, r.envFr, ?_⟩
      simp only [R.bind_ok] at fin
      cases hf : f (frE ρ) with
      | bad => rw [hf] at fin; exact fin
      | err c => rw [hf] at fin; exact fun C H2 e m => fin C H2 (r.st.h.trans e) m
      | ok e0 =>
        rw [hf] at fin
        intro w F2 H2 s rp
        refine od F2 H2 v w d e0 _ s.fh (h2.mono s.f) rp ?_
        simp only [R.bind_ok] at fin
        cases hz : o d e0 with
        | bad => rw [hz] at fin; exact fin
        | err c => rw [hz] at fin; exact fun C H3 e m => fin C H3 ((r.st.h.trans s.h).trans e) m
        | ok z =>
          rw [hz] at fin
          intro u F3 H3 s3 rp3
          simp only [R.bind_ok] at fin
          by_cases hfl : flatD z = true
          · simp only [hfl, if_true] at fin
            exact fin F _ H3 ((r.grow (s.h.trans s3.h)).setSh (rp3.flatAny hfl))
          · simp only [hfl] at fin
            exact fin.elim
    · exact fin.elim
end
end DL
/-! The data layer, 8: defs by their names. -/
namespace DL
open PySem L2
/-- the def x of the module keeps the promise sp, by level k -/
def HasDef (P : Program) (w : World) (K : PySem.W.Frag) (mg : Str → Option Value) (base : Heap) (x : Str) (ps : List Str) (k : Nat) (sp : Sp) : Prop :=
  ∃ f fd, mg x = some (.ref f) ∧ FnOk P w K mg base (L2.CX P w) k f fd ps sp ∧ PySem.W.keepIn K (.ref f) = true ∧ Binds K fd ps []
/-- the def x stands in the module -/
def At (K : PySem.W.Frag) (mg : Str → Option Value) (x : Str) (st : Stmt) : Prop := ∃ f fd, mg x = some (.ref f) ∧ Fun K x x st f fd
/-- an exception class of the module's own over ValueError -/
def ExcAt (K : PySem.W.Frag) (mg : Str → Option Value) (x : Str) (bm : List Value) : Prop :=
  ∃ C, mg x = some (.ref C) ∧ PySem.W.excIn K C bm "ValueError.__new__" = true ∧ PySem.W.keepIn K (.ref C) = true ∧ PySem.W.subIn K (.ref C) (.type "BaseException") = some true ∧ PySem.W.typeIn K (.ref C) = some (.type "type")
section
variable {P : Program} {w : World} {K : PySem.W.Frag} {mg : Str → Option Value} {base : Heap}
theorem hd_x {x : Str} {st : Stmt} {N ps : List Str} {k : Nat} {S : SEnv → R Out} (at_ : At K mg x st) (sc : FnScope N ps (defScope st))
    (hbd : ∀ (kV doc pm : Value) (an : Option Addr) (cdv ct : Value) (us : List Value), us.length = ps.length → bindArgs (PySem.W.fnOf x x (defArgs st) (defBody st) (defScope st) .none kV doc pm an cdv ct) ⟨us, []⟩ = pure (ps.zip us))
    (hb : ∀ (f : Addr) (cdv : Value) (A : Around) (outer : List PySem.Env) (s : Shared) (H : Hp) (E : XK), Room k (A.deeper (PyProof.Rows.envOfC x (defScope st) s.heap.objs.size f cdv)) → PXSs (cxOf (L2.CX P w) P w K mg base N x (defScope st) f cdv A outer s H E) E (defBody st) S) :
    HasDef P w K mg base x ps (k + 1) (spX K mg ps.length (runX N.length S)) := by
  obtain ⟨f, fd, hm, Fu⟩ := at_
  exact ⟨f, fd, hm, fn_x Fu sc (hb f), Fu.kp, Fu.binds hbd⟩
theorem hd_n {x : Str} {st : Stmt} {N ps : List Str} {k : Nat} {S : SEnv → R Out} (at_ : At K mg x st) (sc : FnScope N ps (defScope st))
    (hbd : ∀ (kV doc pm : Value) (an : Option Addr) (cdv ct : Value) (us : List Value), us.length = ps.length → bindArgs (PySem.W.fnOf x x (defArgs st) (defBody st) (defScope st) .none kV doc pm an cdv ct) ⟨us, []⟩ = pure (ps.zip us))
    (hb : ∀ (f : Addr) (cdv : Value) (A : Around) (outer : List PySem.Env) (s : Shared) (H : Hp) (E : XK), Room k (A.deeper (PyProof.Rows.envOfC x (defScope st) s.heap.objs.size f cdv)) → PXSs (cxOf (L2.CX P w) P w K mg base N x (defScope st) f cdv A outer s H E) E (defBody st) S) :
    HasDef P w K mg base x ps (k + 1) (spN K mg ps.length (runN N.length S)) := by
  obtain ⟨f, fd, hm, Fu⟩ := at_
  exact ⟨f, fd, hm, fn_n Fu sc (hb f), Fu.kp, Fu.binds hbd⟩
theorem HasDef.imp {x : Str} {ps : List Str} {k : Nat} {sp sp' : Sp} (h : HasDef P w K mg base x ps k sp) (i : ∀ vs H Q E, sp' vs H Q E → sp vs H Q E) : HasDef P w K mg base x ps k sp' := by
  obtain ⟨f, fd, a, b, c, d⟩ := h
  exact ⟨f, fd, a, b.imp i, c, d⟩
theorem HasDef.mono {x : Str} {ps : List Str} {j k : Nat} {sp : Sp} (h : HasDef P w K mg base x ps j sp) (i : j ≤ k) : HasDef P w K mg base x ps k sp := by
  obtain ⟨f, fd, a, b, c, d⟩ := h
  exact ⟨f, fd, a, b.mono i, c, d⟩
/-- a promise by another function that agrees where it is good -/
theorem HasDef.fx {x : Str} {ps : List Str} {k n : Nat} {f g : List D → R D} (h : HasDef P w K mg base x ps k (spX K mg n f)) (e : ∀ ds, ds.length = n → g ds ≠ .bad → f ds = g ds) : HasDef P w K mg base x ps k (spX K mg n g) :=
  h.imp fun vs H Q E ⟨F, ds, hl, fh, r, fin⟩ => ⟨F, ds, hl, fh, r, by
    by_cases hb : g ds = .bad
    · rw [hb] at fin; exact fin.elim
    · rw [e ds hl hb]; exact fin⟩
theorem HasDef.fn {x : Str} {ps : List Str} {k n : Nat} {f g : List D → R (List D)} (h : HasDef P w K mg base x ps k (spN K mg n f)) (e : ∀ ds, ds.length = n → g ds ≠ .bad → f ds = g ds) : HasDef P w K mg base x ps k (spN K mg n g) :=
  h.imp fun vs H Q E ⟨F, ds, hl, fh, r, fin⟩ => ⟨F, ds, hl, fh, r, by
    by_cases hb : g ds = .bad
    · rw [hb] at fin; exact fin.elim
    · rw [e ds hl hb]; exact fin⟩
theorem HasDef.toX {x : Str} {ps : List Str} {k n : Nat} {f : List D → R (List D)} (h : HasDef P w K mg base x ps k (spN K mg n f)) : HasDef P w K mg base x ps k (spX K mg n fun ds => (f ds).map D.lst) := h.imp spN.toX
end
section
variable {X : Cx} {E : XK} {k j : Nat} {ps : List Str} {x : Str} {p pos : Pos} {e : Expr} {es : List Expr} {fs : Env → R (List D)} {n : Nat}
theorem px_def {o : List D → R D} (G : HasDef X.prog X.w X.K X.mg X.base x ps j (spX X.K X.mg n o)) (hr : Room k X.A) (hj : j ≤ k) (hg : Gl X x) (hx : Passes (L2.CX X.prog X.w) X E) (ha : PXs X E (e :: es) fs) (hdb : (x == ("__debug__" : Str)) = false := by decide)
    (he : starEach (e :: es) X.env = (false, eval e X.env) :: starEach es X.env := by rfl) (hpl : (backTo pos (starEach es X.env)).any (·.1) = false := by rfl) : PX X E (.Call (.Name x p) (e :: es) [] pos) (eCall (callF n o) fs) := by
  obtain ⟨f, fd, a, b, c, d⟩ := G
  exact px_call b (hr.mono hj) hg a c d hx ha hdb he hpl
theorem pn_def {o : List D → R (List D)} (G : HasDef X.prog X.w X.K X.mg X.base x ps j (spN X.K X.mg n o)) (hr : Room k X.A) (hj : j ≤ k) (hg : Gl X x) (hx : Passes (L2.CX X.prog X.w) X E) (ha : PXs X E (e :: es) fs) (hdb : (x == ("__debug__" : Str)) = false := by decide)
    (he : starEach (e :: es) X.env = (false, eval e X.env) :: starEach es X.env := by rfl) (hpl : (backTo pos (starEach es X.env)).any (·.1) = false := by rfl) : PN X E (.Call (.Name x p) (e :: es) [] pos) (eCallN (callF n o) fs) := by
  obtain ⟨f, fd, a, b, c, d⟩ := G
  exact pn_call b (hr.mono hj) hg a c d hx ha hdb he hpl
theorem px_def0 {o : List D → R D} (G : HasDef X.prog X.w X.K X.mg X.base x ps j (spX X.K X.mg 0 o)) (hr : Room k X.A) (hj : j ≤ k) (hg : Gl X x) (hx : Passes (L2.CX X.prog X.w) X E) (hdb : (x == ("__debug__" : Str)) = false := by decide) : PX X E (.Call (.Name x p) [] [] pos) (fun _ => o []) := by
  obtain ⟨f, fd, a, b, c, d⟩ := G
  refine pe_weak (pe_call0 b (hr.mono hj) hg a c d .nil hx hdb) fun σ H Q ⟨F, ρ, fh, en, fin⟩ => ?_
  exact ⟨F, [], rfl, fh, .nil, fin⟩
theorem passE {E : XK} (tk : Takes X (fun cls d _ H => E cls d H)) : Passes (L2.CX X.prog X.w) X E := passes_call tk fun _ _ _ _ h => h
theorem pxs_exc {m : Str} {jj : Nat} {p p2 pos pos' : Pos} {bm : List Value} (G : ExcAt X.K X.mg x bm) (hc : X.calm = true) (tk : Takes X (fun cls d _ H => E cls d H)) {B initId : String} (F : ExcBaseFacts B "ValueError.__new__" initId bm) (hg : Gl X x) (hdb : (x == ("__debug__" : Str)) = false := by decide) :
    PXS X E (.Raise (some (.Call (.Name x p) [.Constant (.str m) jj p2] [] pos)) none pos') (sRaise x) := by
  obtain ⟨C, a, b, c, d, e⟩ := G
  exact pxs_raise hc tk F b a c (raises_own d e) hg hdb
theorem px_globE {i : Int} (hg : Gl X x) (hm : ∃ t, X.mg x = some (.int i t)) (hd : (x == ("__debug__" : Str)) = false := by decide) : PX X E (.Name x p) (eC (.int i)) := by
  obtain ⟨t, hm⟩ := hm
  exact px_globI hg hm hd
end
/-! ### [..].append(e), the list a new one that nobody holds -/
def eAppT (f : Env → R (List D)) (g : Env → R D) : Env → R D := fun ρ => (f ρ).bind fun ds => (g ρ).bind fun _ => if ds.length < 100000 then .ok .non else .bad
def oAddI : D → D → R D
  | .int i, .int j => .ok (.int (i + j))
  | _, _ => .bad
section
variable {X : Cx} {E : XK} {o e : Expr} {f : Env → R (List D)} {g : Env → R D} {apos cpos pos : Pos}
theorem px_appT (ho : PN X E o f) (he : PX X E e g) (hbase : attributeBase o "append" X.env (eval o X.env) = eval o X.env := by rfl)
    (hfew : ((backTo cpos (starEach [e] X.env)).all (fun x => !x.1) && (backToKw cpos (keywordEach [] X.env)).all (fun x => x.1.isSome) && decide ([e].length + ([] : List Keyword).length + (if ([] : List Keyword).isEmpty then 0 else 1) < 30)) = true := by rfl)
    (hline : (apos.endLine == cpos.line) = true := by rfl) (hs : starEach [e] X.env = (false, eval e X.env) :: starEach [] X.env := by rfl) (hplain : (backTo cpos (starEach [] X.env)).any (·.1) = false := by rfl) :
    PX X E (.Call (.Attribute o "append" apos) [e] [] cpos) (eAppT f g) :=
  pe_weak (pe_bm PySem.F.plainAttrs_list PySem.F.slot_list_append PySem.F.type_list_append mt_append ho (pa_cons he pa_nil hs) hbase hfew hline hs hplain) fun σ H Q ⟨F, ρ, fh, en, fin⟩ => by
    refine ⟨F, ρ, fh, en, ?_⟩
    unfold eAppT at fin
    cases hf : f ρ with
    | bad => rw [hf] at fin; exact fin
    | err c => rw [hf] at fin; exact fin
    | ok ds =>
      rw [hf] at fin
      intro p vs F2 H2 s h1 h2 h3 h4
      refine ⟨.inl ⟨rfl, vs, SqL.of h3⟩, ?_⟩
      refine ⟨F2, ρ, s.fh, en.mono s.f, ?_⟩
      simp only [R.bind_ok] at fin
      cases hg : g ρ with
      | bad => rw [hg] at fin; exact fin
      | err c => rw [hg] at fin; exact fun C H3 e m => fin C H3 (s.h.trans e) m
      | ok d =>
        rw [hg] at fin
        intro v F3 H3 s3 r3
        simp only [R.bind_ok] at fin
        by_cases hl : ds.length < 100000
        · rw [if_pos hl] at fin
          have h3' : H3 p = some (.lst vs) := s3.h _ _ h3
          have f3 : F3 p = none := (s3.old p (by rw [h3]; exact fun z => nomatch z)).trans h2
          have st := s.trans s3
          exact ⟨p, vs, v, rfl, rfl, h3', by rw [h4.length]; exact Nat.lt_of_lt_of_le hl (by decide), fin .non F3 _ ⟨fun b o q => by rw [upd_ne (ne_of_none q h1)]; exact st.h b o q, st.f, same_upd2 st.fh f3, st.old⟩ .non⟩
        · rw [if_neg hl] at fin
          exact fin.elim
theorem od_addI : OpD X E (rI0 fun i j => .int (i + j)) oAddI := fun F H v w d e Q fh r1 r2 fin => by
  cases d <;> cases e <;> first
    | exact fin.elim
    | (cases r1; cases r2; exact ⟨_, _, rfl, rfl, fin _ F H (Stp.refl fh) (.int _)⟩)
theorem pxs_augX {i : Nat} {x : Str} {e : Expr} {f : Env → R D} {op : Operator} {r : R2} {o : D → D → R D} {pos' : Pos} (hN : X.N.Nodup) (hi : X.N[i]? = some x) (hx : Loc X.env.scope x) (he : PX X E e f) (ho : OpR X (inplaceOp op) r) (od : OpD X E r o) (hf : X.fn x = true ∨ X.env.scope.names.lookup x = some .local := by first | exact .inl rfl | exact .inr rfl | assumption) :
    PXS X E (.AugAssign (.Name x pos') op e pos) (sAug i o f) := pxs_aug hN hi hx he ho od hf (ps_aug hN hi hx he ho hf)
end
end DL
/-! The data layer, 9: the end of a law. -/
namespace DL
open PySem L2
section
variable {K : PySem.W.Frag} {mg : Str → Option Value} {h : Heap}
theorem at_mk (X : K.In h) (G : h.Ns mainGlobals mg) {x : Str} {st : Stmt} {f : Addr} {oc : Value} {od an : Option Addr} {osl : Array (Option Value)} {kV doc pm cdv ct : Value} (a : PySem.W.nsIn K mainGlobals x = some (some (.ref f)))
    (l : K.lookup f = some ⟨oc, od, .func (PySem.W.fnOf x x (defArgs st) (defBody st) (defScope st) .none kV doc pm an cdv ct), osl⟩) (c : PySem.W.codeIn K cdv x = true) (k : PySem.W.keepIn K (.ref f) = true) : At K mg x st :=
  ⟨f, _, PySem.W.mg_of X G a, fun_mk l c k⟩
theorem exc_mk (X : K.In h) (G : h.Ns mainGlobals mg) {x : Str} {C : Addr} {bm : List Value} (a : PySem.W.nsIn K mainGlobals x = some (some (.ref C))) (e : PySem.W.excIn K C bm "ValueError.__new__" = true) (k : PySem.W.keepIn K (.ref C) = true)
    (s : PySem.W.subIn K (.ref C) (.type "BaseException") = some true) (t : PySem.W.typeIn K (.ref C) = some (.type "type")) : ExcAt K mg x bm := ⟨C, PySem.W.mg_of X G a, e, k, s, t⟩
theorem int_mk (X : K.In h) (G : h.Ns mainGlobals mg) {x : Str} {i : Int} {t : Tok} (a : PySem.W.nsIn K mainGlobals x = some (some (.int i t))) : ∃ t, mg x = some (.int i t) := ⟨t, PySem.W.mg_of X G a⟩
end
def spLaw (K : PySem.W.Frag) : Sp := fun vs H Q _ => ∃ (a : Addr) (ns : List Int), vs = [.ref a] ∧ SqL K H a (ns.map V.int) ∧ ns.length ≤ 63 ∧ ∀ H', Q (.bl true) H'
theorem law_end {P : Program} {w : World} {K : PySem.W.Frag} {mg : Str → Option Value} {fa : Addr} {x : Str} {st : Stmt} {N : List Str} {k : Nat} {S : SEnv → R Out} (at_ : At K mg "law" st) (hmg : mg "law" = some (.ref fa)) (sc : FnScope N [x] (defScope st))
    (hbd : ∀ (kV doc pm : Value) (an : Option Addr) (cdv ct : Value) (s : Shared) (u : Value), BindsTo s (PySem.W.fnOf "law" "law" (defArgs st) (defBody st) (defScope st) .none kV doc pm an cdv ct) ⟨[u], []⟩ [(x, u)])
    (hb : ∀ (base : Heap) (f : Addr) (cdv : Value) (A : Around) (outer : List PySem.Env) (s : Shared) (H : Hp) (E : XK), Room k (A.deeper (PyProof.Rows.envOfC "law" (defScope st) s.heap.objs.size f cdv)) → PXSs (cxOf (L2.CX P w) P w K mg base N "law" (defScope st) f cdv A outer s H E) E (defBody st) S)
    (ht : ∀ ns : List Int, ns.length ≤ 63 → runX N.length S [.scr ns] = .ok (.bl true)) :
    ∃ fd : FuncData, (∀ (s : Shared) (u : Value), BindsTo s fd ⟨[u], []⟩ [(x, u)]) ∧ ∀ base : Heap, K.In base → base.Ns mainGlobals mg → FnOk P w K mg base (L2.CX P w) (k + 1) fa fd [x] (spLaw K) := by
  obtain ⟨f, fd, hm, Fu⟩ := at_
  rw [hm] at hmg
  cases hmg
  refine ⟨fd, ?_, fun base _ _ => (fn_x Fu sc (hb base _)).imp fun vs H Q E ⟨a, ns, e, hS, hl, q⟩ => ?_⟩
  · obtain ⟨oc, od, kV, doc, pm, an, cdv, ct, osl, rfl, lk, hcd⟩ := Fu.ex
    exact hbd kV doc pm an cdv ct
  · subst e
    refine ⟨H, [.scr ns], rfl, Same.refl H, .cons (.scr hS) .nil, ?_⟩
    rw [ht ns hl]
    intro v F2 H2 _ r
    cases r
    exact q H2
end DL
/-! The data layer, E: evaluating meanings. -/
namespace DL
open PySem L2
section
variable {ρ : Env} {σ : SEnv} {f g h : Env → R D} {fs gs : Env → R (List D)} {t u : Env → R Bool} {S T : SEnv → R Out}
@[simp] theorem ap_C (d : D) : eC d ρ = .ok d := id rfl
@[simp] theorem ap_Un (o : D → R D) : eUn o f ρ = (f ρ).bind o := id rfl
@[simp] theorem ap_Op (o : D → D → R D) : eOp o f g ρ = (f ρ).bind fun x => (g ρ).bind fun y => o x y := id rfl
@[simp] theorem ap_OpN (o : D → D → R (List D)) : eOpN o f g ρ = (f ρ).bind fun x => (g ρ).bind fun y => o x y := id rfl
@[simp] theorem ap_UnN (o : D → R (List D)) : eUnN o f ρ = (f ρ).bind o := id rfl
@[simp] theorem ap_aNil : aNil ρ = .ok [] := id rfl
@[simp] theorem ap_aCons : aCons f fs ρ = (f ρ).bind fun x => (fs ρ).bind fun xs => .ok (x :: xs) := id rfl
@[simp] theorem ap_Call (o : List D → R D) : eCall o fs ρ = (fs ρ).bind o := id rfl
@[simp] theorem ap_CallN (o : List D → R (List D)) : eCallN o fs ρ = (fs ρ).bind o := id rfl
@[simp] theorem ap_New : eNew fs ρ = (fs ρ).map D.lst := id rfl
@[simp] theorem ap_Tup : eTup fs ρ = (fs ρ).bind fun ds => if ds.length ≤ 100000 then .ok (.tup ds) else .bad := id rfl
@[simp] theorem ap_Lst : eLst fs ρ = (fs ρ).bind fun ds => if ds.length ≤ 100000 then .ok ds else .bad := id rfl
@[simp] theorem ap_bE : bE f ρ = (f ρ).bind asB := id rfl
@[simp] theorem ap_bNot : bNot t ρ = (t ρ).bind fun b => .ok (!b) := id rfl
@[simp] theorem ap_bAnd : bAnd t u ρ = (t ρ).bind fun b => if b then u ρ else .ok false := id rfl
@[simp] theorem ap_bOr : bOr t u ρ = (t ρ).bind fun b => if b then .ok true else u ρ := id rfl
@[simp] theorem ap_If : eIf t f g ρ = (t ρ).bind fun b => if b then f ρ else g ρ := id rfl
@[simp] theorem ap_And : eAnd f g ρ = (f ρ).bind fun x => (asB x).bind fun b => if b then g ρ else .ok (.bl false) := id rfl
@[simp] theorem ap_Or : eOr f g ρ = (f ρ).bind fun x => (asB x).bind fun b => if b then .ok (.bl true) else g ρ := id rfl
@[simp] theorem ap_Not (b : Bool) : oNot (.bl b) = .ok (.bl !b) := id rfl
@[simp] theorem ap_Chain (o o' : D → D → R D) : eChain o o' f g h ρ = (f ρ).bind fun x => (g ρ).bind fun y => (o x y).bind fun z => (asB z).bind fun b => if b then (h ρ).bind fun u => o' y u else .ok (.bl false) := id rfl
@[simp] theorem ap_pNo : pNo ρ = .ok none := id rfl
@[simp] theorem ap_pSome : pSome f ρ = (f ρ).bind fun x => (asI x).bind fun i => .ok (some i) := id rfl
@[simp] theorem ap_Sl (l u : Env → R (Option Int)) : eSl f l u ρ = (f ρ).bind fun x => (l ρ).bind fun l => (u ρ).bind fun u => slD x l u := id rfl
@[simp] theorem ap_iOf : iOf f ρ = (f ρ).bind itD := id rfl
@[simp] theorem ap_Lc (it : Env → R (List D)) (tg : Tg) (te : Env → R D) (vs : List Nat) : eLc it tg t te vs ρ = (it ρ).bind fun ds => if ds.length ≤ 100000 then lcGo tg t te (wipeD ρ vs) ds else .bad := id rfl
@[simp] theorem wipeD_nil : wipeD ρ [] = ρ := id rfl
@[simp] theorem wipeD_cons (v : Nat) (vs : List Nat) : wipeD ρ (v :: vs) = (wipeD ρ vs).set v none := id rfl
@[simp] theorem ap_bYes : bYes ρ = .ok true := id rfl
@[simp] theorem ap_sNext : sNext σ = .ok (.nx σ) := id rfl
@[simp] theorem ap_Seq : sSeq S T σ = (S σ).bind (thenS T) := id rfl
@[simp] theorem ap_thenNx : thenS T (.nx σ) = T σ := id rfl
@[simp] theorem ap_thenRt (d : D) : thenS T (.rt d) = .ok (.rt d) := id rfl
@[simp] theorem ap_thenRtN (d : List D) : thenS T (.rtN d) = .ok (.rtN d) := id rfl
@[simp] theorem ap_thenBk : thenS T (.bk σ) = .ok (.bk σ) := id rfl
@[simp] theorem ap_thenCt : thenS T (.ct σ) = .ok (.ct σ) := id rfl
@[simp] theorem ap_sIf : sIf t S T σ = (t (frE σ)).bind fun b => if b then S σ else T σ := id rfl
@[simp] theorem ap_sAsgH (i : Nat) : sAsgH i f σ = (f (hdE σ)).bind fun d => .ok (.nx (σ.set i (.sh d))) := id rfl
@[simp] theorem ap_sAsg (i : Nat) : sAsg i f σ = (f (frE σ)).bind fun d => if flatD d then .ok (.nx (σ.set i (.sh d))) else .bad := id rfl
@[simp] theorem ap_sAsgN (i : Nat) : sAsgN i fs σ = (fs (frE σ)).bind fun ds => if ds.all flatD then .ok (.nx (σ.set i (.ow ds))) else .bad := id rfl
@[simp] theorem ap_sAsgNH (i : Nat) : sAsgNH i fs σ = (fs (hdE σ)).bind fun ds => .ok (.nx (σ.set i (.ow ds))) := id rfl
@[simp] theorem ap_sExpr : sExpr f σ = (f (frE σ)).bind fun _ => .ok (.nx σ) := id rfl
@[simp] theorem ap_sRet : sRet f σ = (f (frE σ)).bind fun d => .ok (.rt d) := id rfl
@[simp] theorem ap_sRetN : sRetN fs σ = (fs (frE σ)).bind fun d => .ok (.rtN d) := id rfl
@[simp] theorem ap_sRaise (c : Str) : sRaise c σ = .err c := id rfl
@[simp] theorem ap_sFor (it : Env → R (List D)) (tg : Tg) : sFor it tg S σ = (it (hdE σ)).bind fun ds => forGo tg S ds σ := id rfl
@[simp] theorem ap_sBreak : sBreak σ = .ok (.bk σ) := id rfl
@[simp] theorem ap_sCont : sCont σ = .ok (.ct σ) := id rfl
@[simp] theorem ap_bF : bF f σ = (f (frE σ)).bind fun d => if flatD d then .ok (.sh d) else .bad := id rfl
@[simp] theorem ap_bH : bH f σ = (f (hdE σ)).bind fun d => .ok (.sh d) := id rfl
@[simp] theorem ap_bN : bN fs σ = (fs (frE σ)).bind fun ds => if ds.all flatD then .ok (.ow ds) else .bad := id rfl
@[simp] theorem ap_bNH : bNH fs σ = (fs (hdE σ)).bind fun ds => .ok (.ow ds) := id rfl
@[simp] theorem ap_bsNil : bsNil σ = .ok [] := id rfl
@[simp] theorem ap_bsCons (b : SEnv → R VE) (bs : SEnv → R (List VE)) : bsCons b bs σ = (b σ).bind fun e => (bs σ).bind fun es => .ok (e :: es) := id rfl
@[simp] theorem ap_sPar (is : List Nat) (bs : SEnv → R (List VE)) : sPar is bs σ = (bs σ).bind fun es => if es.length = is.length ∧ es.length ≤ 1000 then .ok (.nx (setB σ (is.zip es))) else .bad := id rfl
@[simp] theorem ap_outRt (d : D) : outX (.rt d) = .ok d := id rfl
@[simp] theorem ap_outRtN (d : List D) : outX (.rtN d) = .ok (.lst d) := id rfl
@[simp] theorem ap_outNx : outX (.nx σ) = .ok .non := id rfl
@[simp] theorem ap_outN (d : List D) : outN (.rtN d) = .ok d := id rfl
@[simp] theorem ap_asB (b : Bool) : asB (.bl b) = .ok b := id rfl
@[simp] theorem ap_asI (i : Int) : asI (.int i) = .ok i := id rfl
@[simp] theorem fr_sh (d : D) : VE.fr (.sh d) = some d := id rfl
@[simp] theorem fr_ow (d : List D) : VE.fr (.ow d) = some (.lst d) := id rfl
@[simp] theorem fr_un : VE.fr .un = none := id rfl
@[simp] theorem hd_sh (d : D) : VE.hd (.sh d) = some d := id rfl
@[simp] theorem hd_ow (d : List D) : VE.hd (.ow d) = none := id rfl
@[simp] theorem hd_un : VE.hd .un = none := id rfl
@[simp] theorem flat_int (i : Int) : flatD (.int i) = true := id rfl
@[simp] theorem flat_bl (i : Bool) : flatD (.bl i) = true := id rfl
@[simp] theorem flat_str (i : Str) : flatD (.str i) = true := id rfl
@[simp] theorem flat_non : flatD .non = true := id rfl
@[simp] theorem flats_map {α : Type} (xs : List α) (g : α → Int) : (xs.map fun x => D.int (g x)).all flatD = true := by simp [List.all_map]
@[simp] theorem flats_ints (ns : List Int) : (ns.map D.int).all flatD = true := by simp [List.all_map]
@[simp] theorem ap_sAppH (i : Nat) : sAppH i f σ = (match σ[i]? with | some (.ow ds) => (f (hdE σ)).bind fun d => if ds.length < 100000 then .ok (.nx (σ.set i (.ow (ds ++ [d])))) else .bad | _ => .bad) := id rfl
@[simp] theorem ap_sApp (i : Nat) : sApp i f σ = (match σ[i]? with | some (.ow ds) => (f (frE σ)).bind fun d => if flatD d = true ∧ ds.length < 100000 then .ok (.nx (σ.set i (.ow (ds ++ [d])))) else .bad | _ => .bad) := id rfl
@[simp] theorem ap_sRetO (i : Nat) : sRetO i σ = (match σ[i]? with | some (.ow ds) => .ok (.rtN ds) | _ => .bad) := id rfl
@[simp] theorem ap_sFrz (i : Nat) : sFrz i S σ = (match σ[i]? with | some (.ow ds) => S (σ.set i (.sh (.lst ds))) | _ => S σ) := id rfl
@[simp] theorem ap_sUnp (tg : Tg) : sUnp tg f σ = (f (hdE σ)).bind fun d => match tgB tg d with | some as => .ok (.nx (setS σ as)) | none => .bad := id rfl
@[simp] theorem ap_sAug (i : Nat) (o : D → D → R D) : sAug i o f σ = sAsg i (eOp o (eVar i) f) σ := id rfl
@[simp] theorem ap_tgNm (i : Nat) (d : D) : tgB (.nm i) d = some [(i, d)] := by unfold tgB; rfl
@[simp] theorem ap_tgTp (ts : Tgs) (ds : List D) : tgB (.tp ts) (.tup ds) = tgBs ts ds := by unfold tgB; rfl
@[simp] theorem ap_tgsNil : tgBs .nil [] = some [] := by unfold tgBs; rfl
@[simp] theorem ap_tgsCons (t : Tg) (ts : Tgs) (d : D) (ds : List D) : tgBs (.cons t ts) (d :: ds) = (tgB t d).bind fun a => (tgBs ts ds).map fun b => a ++ b := by conv => lhs; unfold tgBs
@[simp] theorem setS_nil : setS σ [] = σ := id rfl
@[simp] theorem setS_cons (a : Nat × D) (as : List (Nat × D)) : setS σ (a :: as) = setS (σ.set a.1 (.sh a.2)) as := id rfl
@[simp] theorem setD_nil : setD ρ [] = ρ := id rfl
@[simp] theorem setD_cons (a : Nat × D) (as : List (Nat × D)) : setD ρ (a :: as) = setD (ρ.set a.1 (some a.2)) as := id rfl
@[simp] theorem setB_nil : setB σ [] = σ := id rfl
@[simp] theorem setB_cons (a : Nat × VE) (as : List (Nat × VE)) : setB σ (a :: as) = setB (σ.set a.1 a.2) as := id rfl
def forK (tg : Tg) (S : SEnv → R Out) (r : List D) : Out → R Out
  | .nx ρ' => forGo tg S r ρ'
  | .ct ρ' => forGo tg S r ρ'
  | .bk ρ' => .ok (.nx ρ')
  | o => .ok o
@[simp] theorem forK_nx (tg : Tg) (r : List D) : forK tg S r (.nx σ) = forGo tg S r σ := id rfl
@[simp] theorem forK_ct (tg : Tg) (r : List D) : forK tg S r (.ct σ) = forGo tg S r σ := id rfl
@[simp] theorem forK_bk (tg : Tg) (r : List D) : forK tg S r (.bk σ) = .ok (.nx σ) := id rfl
@[simp] theorem forK_rt (tg : Tg) (r : List D) (d : D) : forK tg S r (.rt d) = .ok (.rt d) := id rfl
@[simp] theorem forK_rtN (tg : Tg) (r : List D) (d : List D) : forK tg S r (.rtN d) = .ok (.rtN d) := id rfl
theorem for_nil (tg : Tg) : forGo tg S [] σ = .ok (.nx σ) := rfl
theorem for_cons {tg : Tg} {d : D} {r : List D} {as : List (Nat × D)} (h : tgB tg d = some as) : forGo tg S (d :: r) σ = (S (setS σ as)).bind (forK tg S r) := by
  conv => lhs; unfold forGo
  rw [h]
  rfl
theorem hdE_cons (e : VE) : hdE (e :: σ) = e.hd :: hdE σ := rfl
@[simp] theorem hdE_nil : hdE [] = [] := id rfl
theorem frE_cons (e : VE) : frE (e :: σ) = e.fr :: frE σ := rfl
@[simp] theorem frE_nil : frE [] = [] := id rfl
@[simp] theorem hdE_sh (d : D) : hdE (.sh d :: σ) = some d :: hdE σ := id rfl
@[simp] theorem hdE_ow (d : List D) : hdE (.ow d :: σ) = none :: hdE σ := id rfl
@[simp] theorem hdE_un : hdE (.un :: σ) = none :: hdE σ := id rfl
@[simp] theorem frE_sh (d : D) : frE (.sh d :: σ) = some d :: frE σ := id rfl
@[simp] theorem frE_ow (d : List D) : frE (.ow d :: σ) = some (.lst d) :: frE σ := id rfl
@[simp] theorem frE_un : frE (.un :: σ) = none :: frE σ := id rfl
@[simp] theorem var_0 (d : D) : eVar 0 (some d :: ρ) = .ok d := id rfl
@[simp] theorem var_s (i : Nat) (x : Option D) : eVar (i + 1) (x :: ρ) = eVar i ρ := id rfl
@[simp] theorem add_int (i j : Int) : oAdd (.int i) (.int j) = .ok (.int (i + j)) := id rfl
@[simp] theorem sub_int (i j : Int) : oSub (.int i) (.int j) = .ok (.int (i - j)) := id rfl
@[simp] theorem addI_int (i j : Int) : oAddI (.int i) (.int j) = .ok (.int (i + j)) := id rfl
@[simp] theorem neg_int (i : Int) : oNeg (.int i) = .ok (.int (-i)) := id rfl
@[simp] theorem cmp_int (p : Int → Int → Bool) (i j : Int) : oCmp p (.int i) (.int j) = .ok (.bl (p i j)) := id rfl
theorem mul_int {i j : Int} (h : mulOk i j) : oMul (.int i) (.int j) = .ok (.int (i * j)) := if_pos h
theorem mod_int {i j : Int} (h : 0 < j) : oMod (.int i) (.int j) = .ok (.int (i % j)) := if_pos h
theorem fdiv_int {i j : Int} (h : 0 < j ∧ j < 1073741824) : oFdiv (.int i) (.int j) = .ok (.int (i / j)) := if_pos h
@[simp] theorem is_non : oIs .non .non = .ok (.bl true) := id rfl
@[simp] theorem is_lst (d : List D) : oIs (.lst d) .non = .ok (.bl false) := id rfl
@[simp] theorem is_int (d : Int) : oIs (.int d) .non = .ok (.bl false) := id rfl
@[simp] theorem isn_non : oIsNot .non .non = .ok (.bl false) := id rfl
@[simp] theorem isn_lst (d : List D) : oIsNot (.lst d) .non = .ok (.bl true) := id rfl
@[simp] theorem isn_int (d : Int) : oIsNot (.int d) .non = .ok (.bl true) := id rfl
@[simp] theorem len_lst (d : List D) : oLen [.lst d] = .ok (.int d.length) := id rfl
@[simp] theorem len_tup (d : List D) : oLen [.tup d] = .ok (.int d.length) := id rfl
@[simp] theorem it_lst (d : List D) : itD (.lst d) = .ok d := id rfl
@[simp] theorem it_tup (d : List D) : itD (.tup d) = .ok d := id rfl
@[simp] theorem list_lst (d : List D) : oList [.lst d] = .ok d := id rfl
@[simp] theorem list_tup (d : List D) : oList [.tup d] = .ok d := id rfl
@[simp] theorem abs_int (i : Int) : oAbs [.int i] = .ok (.int (if i < 0 then -i else i)) := id rfl
@[simp] theorem sum_ints (ns : List Int) : oSum [.lst (ns.map D.int)] = .ok (.int ns.sum) := by simp [oSum, onInts]
@[simp] theorem all_bls (ns : List Bool) : oAll [.lst (ns.map D.bl)] = .ok (.bl (ns.all id)) := by simp [oAll, onBls]
@[simp] theorem any_bls (ns : List Bool) : oAny [.lst (ns.map D.bl)] = .ok (.bl (ns.any id)) := by simp [oAny, onBls]
@[simp] theorem sorted_ints (ns : List Int) : oSorted [.lst (ns.map D.int)] = .ok ((isort ns).map D.int) := by simp [oSorted]
@[simp] theorem sl_lst (d : List D) (l u : Option Int) : slD (.lst d) l u = .ok (cutD d l u) := id rfl
@[simp] theorem sl_scr (d : List Int) (l u : Option Int) : slD (.scr d) l u = .ok ((cutD d l u).map D.int) := id rfl
theorem callF_ok {α : Type} {n : Nat} {o : List D → R α} {ds : List D} (h : ds.length = n) : callF n o ds = o ds := if_pos h
@[simp] theorem callF_1 {α : Type} (o : List D → R α) (a : D) : callF 1 o [a] = o [a] := id rfl
@[simp] theorem callF_2 {α : Type} (o : List D → R α) (a b : D) : callF 2 o [a, b] = o [a, b] := id rfl
@[simp] theorem callF_3 {α : Type} (o : List D → R α) (a b c : D) : callF 3 o [a, b, c] = o [a, b, c] := id rfl
@[simp] theorem callF_4 {α : Type} (o : List D → R α) (a b c d : D) : callF 4 o [a, b, c, d] = o [a, b, c, d] := id rfl
@[simp] theorem range_ok {a b : Int} (h : rgOk a b) : oRange (.int a) (.int b) = .ok ((rgI a b).map D.int) := if_pos h
theorem rg1_ok {n : Int} (h : -1000000 ≤ n ∧ n ≤ 1000000) : rg1 [.int n] = .ok ((rgN 0 n.toNat).map D.int) := if_pos h
theorem rg2_ok {a b : Int} (h : rgOk a b) : rg2 [.int a, .int b] = .ok ((rgN a (b - a).toNat).map D.int) := if_pos h
end
/-! kinds -/
@[simp] theorem ki1 : kitB "int" "int" = some true := by decide +kernel
@[simp] theorem ki2 : kitB "bool" "int" = some true := by decide +kernel
@[simp] theorem ki3 : kitB "NoneType" "int" = some false := by decide +kernel
@[simp] theorem ki4 : kitB "str" "int" = some false := by decide +kernel
@[simp] theorem ki5 : kitB "list" "int" = some false := by decide +kernel
@[simp] theorem ki6 : kitB "tuple" "int" = some false := by decide +kernel
@[simp] theorem kb1 : kitB "int" "bool" = some false := by decide +kernel
@[simp] theorem kb2 : kitB "bool" "bool" = some true := by decide +kernel
@[simp] theorem kb3 : kitB "NoneType" "bool" = some false := by decide +kernel
@[simp] theorem kb4 : kitB "str" "bool" = some false := by decide +kernel
@[simp] theorem kb5 : kitB "list" "bool" = some false := by decide +kernel
@[simp] theorem kb6 : kitB "tuple" "bool" = some false := by decide +kernel
@[simp] theorem kl1 : kitB "int" "list" = some false := by decide +kernel
@[simp] theorem kl2 : kitB "bool" "list" = some false := by decide +kernel
@[simp] theorem kl3 : kitB "NoneType" "list" = some false := by decide +kernel
@[simp] theorem kl4 : kitB "str" "list" = some false := by decide +kernel
@[simp] theorem kl5 : kitB "list" "list" = some true := by decide +kernel
@[simp] theorem kl6 : kitB "tuple" "list" = some false := by decide +kernel
@[simp] theorem kt1 : kitB "int" "tuple" = some false := by decide +kernel
@[simp] theorem kt2 : kitB "bool" "tuple" = some false := by decide +kernel
@[simp] theorem kt3 : kitB "NoneType" "tuple" = some false := by decide +kernel
@[simp] theorem kt4 : kitB "str" "tuple" = some false := by decide +kernel
@[simp] theorem kt5 : kitB "list" "tuple" = some false := by decide +kernel
@[simp] theorem kt6 : kitB "tuple" "tuple" = some true := by decide +kernel
@[simp] theorem isi_int (T : String) (i : Int) : oIsi T (.int i) = (match kitB "int" T with | some b => .ok (.bl b) | none => .bad) := id rfl
@[simp] theorem isi_bl (T : String) (i : Bool) : oIsi T (.bl i) = (match kitB "bool" T with | some b => .ok (.bl b) | none => .bad) := id rfl
@[simp] theorem isi_non (T : String) : oIsi T .non = (match kitB "NoneType" T with | some b => .ok (.bl b) | none => .bad) := id rfl
@[simp] theorem isi_str (T : String) (x : Str) : oIsi T (.str x) = (match kitB "str" T with | some b => .ok (.bl b) | none => .bad) := id rfl
@[simp] theorem isi_lst (T : String) (x : List D) : oIsi T (.lst x) = (match kitB "list" T with | some b => .ok (.bl b) | none => .bad) := id rfl
@[simp] theorem isi_tup (T : String) (x : List D) : oIsi T (.tup x) = (match kitB "tuple" T with | some b => .ok (.bl b) | none => .bad) := id rfl
/-! == -/
theorem toPys_ints (ns : List Int) : toPys (ns.map D.int) = some (ns.map PyData.int) := by
  induction ns with
  | nil => rfl
  | cons n ns ih => simp [toPys, toPy, ih]
end DL
/-! The data layer, M: comprehensions and loops over lists of known make; ==; rows of things by ranks. -/
namespace DL
open PySem L2
abbrev Li (ns : List Int) : D := .lst (ns.map D.int)
theorem lcGo_map {α : Type} {t : Tg} {tt : Env → R Bool} {te : Env → R D} {ρ : Env} (c : α → D) (as : α → List (Nat × D)) (p : α → Bool) (g : α → D) : ∀ (xs : List α), (∀ x ∈ xs, tgB t (c x) = some (as x)) → (∀ x ∈ xs, tt (setD ρ (as x)) = .ok (p x)) → (∀ x ∈ xs, p x = true → te (setD ρ (as x)) = .ok (g x)) →
    lcGo t tt te ρ (xs.map c) = .ok ((xs.filter p).map g)
  | [], _, _, _ => rfl
  | x :: xs, hb, ht, he => by
    have ih := lcGo_map c as p g xs (fun y hy => hb y (List.mem_cons_of_mem _ hy)) (fun y hy => ht y (List.mem_cons_of_mem _ hy)) (fun y hy => he y (List.mem_cons_of_mem _ hy))
    rw [List.map_cons]
    unfold lcGo
    rw [hb x List.mem_cons_self]
    simp only []
    rw [ht x List.mem_cons_self]
    cases hp : p x with
    | true =>
      rw [he x List.mem_cons_self hp, ih]
      simp [noErr, hp]
    | false => simp [noErr, hp, ih]
/-- one name over a list -/
theorem lc_nm {α : Type} {j : Nat} {tt : Env → R Bool} {te : Env → R D} {ρ : Env} (c : α → D) (p : α → Bool) (g : α → D) (xs : List α) (ht : ∀ x ∈ xs, tt (ρ.set j (some (c x))) = .ok (p x)) (he : ∀ x ∈ xs, p x = true → te (ρ.set j (some (c x))) = .ok (g x)) :
    lcGo (.nm j) tt te ρ (xs.map c) = .ok ((xs.filter p).map g) := lcGo_map c (fun x => [(j, c x)]) p g xs (fun x _ => by unfold tgB; rfl) ht he
theorem enum_zip (xs : List Int) : (xs.map D.int).mapIdx (fun i d => D.tup [.int (i : Nat), d]) = xs.zipIdx.map fun p => .tup [.int (p.2 : Nat), .int p.1] := by
  rw [List.mapIdx_eq_zipIdx_map, List.zipIdx_map, List.map_map]
  rfl
/-- i, x over enumerate -/
theorem lc_en {i j : Nat} {tt : Env → R Bool} {te : Env → R D} {ρ : Env} (p : Int × Nat → Bool) (g : Int × Nat → D) (xs : List Int) (ht : ∀ x ∈ xs.zipIdx, tt ((ρ.set i (some (.int (x.2 : Nat)))).set j (some (.int x.1))) = .ok (p x))
    (he : ∀ x ∈ xs.zipIdx, p x = true → te ((ρ.set i (some (.int (x.2 : Nat)))).set j (some (.int x.1))) = .ok (g x)) :
    lcGo (.tp (.cons (.nm i) (.cons (.nm j) .nil))) tt te ρ ((xs.map D.int).mapIdx fun i d => D.tup [.int (i : Nat), d]) = .ok ((xs.zipIdx.filter p).map g) := by
  rw [enum_zip]
  exact lcGo_map (fun p : Int × Nat => D.tup [.int (p.2 : Nat), .int p.1]) (fun x => [(i, .int (x.2 : Nat)), (j, .int x.1)]) p g xs.zipIdx (fun x _ => by simp [tgB, tgBs]) ht he
theorem iEn_ints {f : Env → R D} {ρ : Env} {xs : List Int} (h : f ρ = .ok (Li xs)) : iEn f ρ = .ok ((xs.map D.int).mapIdx fun i d => D.tup [.int (i : Nat), d]) := by
  unfold iEn
  rw [h]
  rfl
theorem cut_take {α : Type} (xs : List α) (k : Nat) : cutD xs none (some (k : Int)) = xs.take k := by
  unfold cutD
  rw [HT.sIx_none, show HT.sIx xs.length xs.length (some (k : Int)) = min k xs.length from HT.sIx_nat xs.length xs.length k, List.drop_zero, Nat.sub_zero]
  rcases Nat.le_total k xs.length with h | h
  · rw [Nat.min_eq_left h]
  · rw [Nat.min_eq_right h, List.take_length, List.take_of_length_le h]
/-! == of ints and lists of ints -/
theorem canLay_ints (ns : List Int) : PyData.canLayAll0 (ns.map PyData.int) = true := by
  induction ns with
  | nil => rfl
  | cons n ns ih => simp [PyData.canLayAll0, PyData.canLay0, ih]
theorem depth_ints (ns : List Int) : PyData.depthAll (ns.map PyData.int) = 0 := by
  induction ns with
  | nil => rfl
  | cons n ns ih => simp [PyData.depthAll, PyData.depth, ih]
theorem shaped_ints (ns : List Int) : SeqAt.shaped (.list (ns.map PyData.int)) = true := by
  unfold SeqAt.shaped
  simp [PyData.canLay0, PyData.depth, canLay_ints, depth_ints]
theorem eqv_ints : ∀ a b : List Int, PyData.eqvAll (a.map PyData.int) (b.map PyData.int) = decide (a = b)
  | [], [] => by simp [PyData.eqvAll]
  | [], _ :: _ => by simp [PyData.eqvAll]
  | _ :: _, [] => by simp [PyData.eqvAll]
  | x :: xs, y :: ys => by
    rw [List.map_cons, List.map_cons]
    unfold PyData.eqvAll
    rw [eqv_ints xs ys]
    unfold PyData.eqv
    by_cases h : x = y <;> by_cases h2 : xs = ys <;> simp [h, h2]
theorem eqD_Li (a b : List Int) : eqD (Li a) (Li b) = .ok (decide (a = b)) := by
  unfold eqD
  simp only [toPy, toPys_ints, Option.map_some]
  rw [if_pos ⟨shaped_ints a, shaped_ints b⟩]
  unfold PyData.eqv
  rw [eqv_ints]
theorem eqD_int (a b : Int) : eqD (.int a) (.int b) = .ok (decide (a = b)) := by
  unfold eqD
  simp only [toPy]
  rw [if_pos ⟨rfl, rfl⟩]
  unfold PyData.eqv
  by_cases h : a = b <;> simp [h]
theorem eqD_scr (a b : List Int) : eqD (.scr a) (Li b) = .ok (decide (a = b)) := by
  unfold eqD
  simp only [toPy, toPys_ints, Option.map_some]
  rw [if_pos ⟨shaped_ints a, shaped_ints b⟩]
  unfold PyData.eqv
  rw [eqv_ints]
@[simp] theorem oEq_Li (a b : List Int) : oEq (.lst (a.map D.int)) (.lst (b.map D.int)) = .ok (.bl (decide (a = b))) := by unfold oEq; rw [eqD_Li]; rfl
@[simp] theorem oNe_Li (a b : List Int) : oNe (.lst (a.map D.int)) (.lst (b.map D.int)) = .ok (.bl (!decide (a = b))) := by unfold oNe; rw [eqD_Li]; rfl
@[simp] theorem oEq_int (a b : Int) : oEq (.int a) (.int b) = .ok (.bl (decide (a = b))) := by unfold oEq; rw [eqD_int]; rfl
@[simp] theorem oNe_int (a b : Int) : oNe (.int a) (.int b) = .ok (.bl (!decide (a = b))) := by unfold oNe; rw [eqD_int]; rfl
@[simp] theorem oNe_scr (a b : List Int) : oNe (.scr a) (.lst (b.map D.int)) = .ok (.bl (!decide (a = b))) := by unfold oNe; rw [eqD_scr]; rfl
theorem oNe_scr0 (a : List Int) : oNe (.scr a) (.lst []) = .ok (.bl (!decide (a = []))) := oNe_scr a []
/-! loops over a range -/
theorem forGo_inv {α : Type} {j : Nat} {S : SEnv → R Out} (c : α → D) (I : Nat → SEnv → Prop) : ∀ (xs : List α) (k : Nat) (σ : SEnv), I k σ → (∀ (i : Nat) (x : α) σ, xs[i]? = some x → I (k + i) σ → ∃ σ', S (σ.set j (.sh (c x))) = .ok (.nx σ') ∧ I (k + i + 1) σ') →
    ∃ σ', forGo (.nm j) S (xs.map c) σ = .ok (.nx σ') ∧ I (k + xs.length) σ'
  | [], k, σ, h0, _ => ⟨σ, rfl, h0⟩
  | x :: xs, k, σ, h0, hs => by
    obtain ⟨σ1, e1, i1⟩ := hs 0 x σ rfl h0
    obtain ⟨σ2, e2, i2⟩ := forGo_inv c I xs (k + 1) σ1 i1 (fun i y σ hy hi => by
      have := hs (i + 1) y σ (by simpa using hy) (by rw [show k + (i + 1) = k + 1 + i by omega]; exact hi)
      rw [show k + (i + 1) + 1 = k + 1 + i + 1 by omega] at this
      exact this)
    refine ⟨σ2, ?_, by rw [List.length_cons, show k + (xs.length + 1) = k + 1 + xs.length by omega]; exact i2⟩
    rw [List.map_cons]
    unfold forGo tgB
    simp only [setS, List.foldl_cons, List.foldl_nil]
    rw [e1]
    exact e2
theorem rgN_get {lo : Int} {n i : Nat} {x : Int} (h : (rgN lo n)[i]? = some x) : i < n ∧ x = lo + i := by
  unfold rgN at h
  rw [List.getElem?_map] at h
  by_cases hi : i < n
  · rw [List.getElem?_range hi] at h
    exact ⟨hi, (Option.some.inj h).symm⟩
  · rw [List.getElem?_eq_none (by simpa using hi)] at h
    cases h
theorem rgN_len (lo : Int) (n : Nat) : (rgN lo n).length = n := by simp [rgN]
theorem rgI_eq (a b : Int) : rgI a b = rgN a (b - a).toNat := rfl

/-! ### rows by ranks -/
def bump (r x : Int) : Int := if x ≥ r then x + 1 else x
def stepR (row : List Int) (r : Int) : List Int := row.map (bump r) ++ [r]
def rowBy (rs : List Int) : List Int := rs.foldl stepR []
/-- ranks: that at each place from 0 to the place -/
def Valid (rs : List Int) : Prop := ∀ (i : Nat) r, rs[i]? = some r → 0 ≤ r ∧ r ≤ i
def ranksIn (row : List Int) : List Int := row.zipIdx.map fun p => (((row.take p.2).filter fun y => decide (y < p.1)).length : Int)
theorem rowBy_snoc (rs : List Int) (r : Int) : rowBy (rs ++ [r]) = stepR (rowBy rs) r := by simp [rowBy]
theorem rowBy_len (rs : List Int) : (rowBy rs).length = rs.length := by
  have : ∀ (rs row : List Int), (rs.foldl stepR row).length = row.length + rs.length := by
    intro rs
    induction rs with
    | nil => intro row; rfl
    | cons r rs ih => intro row; rw [List.foldl_cons, ih]; simp [stepR]; omega
  unfold rowBy
  simpa using this rs []
theorem snoc_ind {P : List Int → Prop} (h0 : P []) (hs : ∀ rs r, P rs → P (rs ++ [r])) : ∀ rs, P rs := by
  intro rs
  have : ∀ n (rs : List Int), rs.length = n → P rs := by
    intro n
    induction n with
    | zero => intro rs h; rw [List.length_eq_zero_iff.mp h]; exact h0
    | succ n ih =>
      intro rs h
      have hne : rs ≠ [] := by intro z; rw [z] at h; cases h
      rw [← List.dropLast_concat_getLast hne]
      exact hs _ _ (ih _ (by rw [List.length_dropLast]; omega))
  exact this _ rs rfl
theorem Valid.init {rs : List Int} {r : Int} (h : Valid (rs ++ [r])) : Valid rs ∧ 0 ≤ r ∧ r ≤ rs.length := by
  constructor
  · intro i x hx
    exact h i x (by rw [List.getElem?_append_left (List.getElem?_eq_some_iff.mp hx).1]; exact hx)
  · exact h rs.length r (by simp)
theorem Valid.snoc {rs : List Int} {r : Int} (h : Valid rs) (h0 : 0 ≤ r) (h1 : r ≤ rs.length) : Valid (rs ++ [r]) := by
  intro i x hx
  by_cases hi : i < rs.length
  · rw [List.getElem?_append_left hi] at hx
    exact h i x hx
  · rw [List.getElem?_append_right (by omega)] at hx
    have hl : i - rs.length = 0 := by
      have := (List.getElem?_eq_some_iff.mp hx).1
      simp at this
      omega
    rw [hl] at hx
    cases hx
    omega
theorem rgN_split (lo : Int) (a b : Nat) : rgN lo (a + b) = rgN lo a ++ rgN (lo + a) b := by
  apply List.ext_getElem?
  intro i
  unfold rgN
  by_cases h1 : i < a
  · rw [List.getElem?_append_left (by simpa using h1), List.getElem?_map, List.getElem?_map, List.getElem?_range (by omega), List.getElem?_range h1]
  · rw [List.getElem?_append_right (by simpa using h1), List.getElem?_map, List.getElem?_map, List.length_map, List.length_range]
    by_cases h2 : i < a + b
    · rw [List.getElem?_range h2, List.getElem?_range (by omega)]
      simp only [Option.map_some, Option.some.injEq]
      omega
    · rw [List.getElem?_eq_none (by simpa using h2), List.getElem?_eq_none (by simp; omega)]
      rfl
theorem rgN_succ (lo : Int) (b : Nat) : rgN lo (b + 1) = lo :: rgN (lo + 1) b := by
  have h := rgN_split lo 1 b
  rw [Nat.add_comm b 1, h]
  simp [rgN]
theorem mem_rgN {lo : Int} {n : Nat} {x : Int} : x ∈ rgN lo n ↔ lo ≤ x ∧ x < lo + n := by
  unfold rgN
  simp only [List.mem_map, List.mem_range]
  constructor
  · rintro ⟨i, hi, rfl⟩; omega
  · intro h; exact ⟨(x - lo).toNat, by omega, by omega⟩
theorem map_bump_low {r lo : Int} {n : Nat} (h : lo + n ≤ r) : (rgN lo n).map (bump r) = rgN lo n := by
  rw [show rgN lo n = (rgN lo n).map id by simp, List.map_map]
  apply List.map_congr_left
  intro x hx
  have := mem_rgN.mp hx
  show bump r x = x
  unfold bump
  rw [if_neg (by omega)]
theorem map_bump_high {r lo : Int} {n : Nat} (h : r ≤ lo) : (rgN lo n).map (bump r) = rgN (lo + 1) n := by
  unfold rgN
  rw [List.map_map]
  apply List.map_congr_left
  intro i _
  show bump r (lo + i) = lo + 1 + i
  unfold bump
  rw [if_pos (by omega)]
  omega
/-- a row by ranks holds each thing once -/
theorem rowBy_perm : ∀ rs, Valid rs → (rowBy rs).Perm (rgN 0 rs.length) := by
  apply snoc_ind
  · intro _; exact .nil
  · intro rs r ih hv
    obtain ⟨h1, h2, h3⟩ := hv.init
    have p := ih h1
    rw [rowBy_snoc]
    unfold stepR
    refine ((p.map (bump r)).append_right [r]).trans ?_
    obtain ⟨k, rfl⟩ : ∃ k : Nat, r = k := ⟨r.toNat, by omega⟩
    have hk : k ≤ rs.length := by omega
    obtain ⟨m, hm⟩ : ∃ m, rs.length = k + m := ⟨rs.length - k, by omega⟩
    rw [List.length_append, hm]
    rw [rgN_split 0 k m, List.map_append, map_bump_low (by omega), map_bump_high (by omega)]
    have e : rgN 0 (k + m + [(k : Int)].length) = rgN 0 k ++ (k : Int) :: rgN ((k : Int) + 1) m := by
      rw [List.length_singleton, Nat.add_assoc, rgN_split 0 k (m + 1), rgN_succ]
      simp
    rw [e, List.append_assoc]
    refine List.Perm.append_left _ ?_
    rw [show (0 : Int) + (k : Int) + 1 = (k : Int) + 1 by omega]
    exact List.perm_append_singleton _ _
theorem bump_lt (r x y : Int) : bump r x < bump r y ↔ x < y := by
  unfold bump; split <;> split <;> omega
theorem bump_ltr (r x : Int) : bump r x < r ↔ x < r := by
  unfold bump; split <;> omega
theorem bump_gtr (r x : Int) : r < bump r x ↔ r ≤ x := by
  unfold bump; split <;> omega
theorem zipIdx_snoc {α : Type} (xs : List α) (x : α) : (xs ++ [x]).zipIdx = xs.zipIdx ++ [(x, xs.length)] := by
  rw [List.zipIdx_append]; simp
theorem mem_zipIdx_lt {xs : List Int} {p : Int × Nat} (h : p ∈ xs.zipIdx) : p.2 < xs.length ∧ xs[p.2]? = some p.1 := by
  obtain ⟨x, i⟩ := p
  have h' := List.mem_zipIdx_iff_getElem?.mp h
  exact ⟨(List.getElem?_eq_some_iff.mp h').1, h'⟩
theorem ranksIn_snoc (xs : List Int) (x : Int) : ranksIn (xs ++ [x]) = ranksIn xs ++ [((xs.filter fun y => decide (y < x)).length : Int)] := by
  unfold ranksIn
  rw [zipIdx_snoc, List.map_append]
  congr 1
  · apply List.map_congr_left
    intro p hp
    have := (mem_zipIdx_lt hp).1
    rw [List.take_append_of_le_length (by omega)]
  · simp
theorem ranksIn_map (r : Int) (xs : List Int) : ranksIn (xs.map (bump r)) = ranksIn xs := by
  unfold ranksIn
  rw [List.zipIdx_map, List.map_map]
  apply List.map_congr_left
  intro p _
  show (((List.take p.2 (xs.map (bump r))).filter fun y => decide (y < bump r p.1)).length : Int) = _
  rw [← List.map_take, List.filter_map, List.length_map]
  congr 2
  apply List.filter_congr
  intro y _
  show decide (bump r y < bump r p.1) = decide (y < p.1)
  simp only [bump_lt]
theorem less_count {row : List Int} {n k : Nat} (p : row.Perm (rgN 0 n)) (h : k ≤ n) : (row.filter fun y => decide (y < (k : Int))).length = k := by
  rw [(p.filter _).length_eq]
  obtain ⟨m, rfl⟩ : ∃ m, n = k + m := ⟨n - k, by omega⟩
  rw [rgN_split, List.filter_append, List.filter_eq_self.mpr, List.filter_eq_nil_iff.mpr]
  · simp [rgN]
  · intro x hx
    have := mem_rgN.mp hx
    simp; omega
  · intro x hx
    have := mem_rgN.mp hx
    simp; omega
theorem ranks_rowBy : ∀ rs, Valid rs → ranksIn (rowBy rs) = rs := by
  apply snoc_ind
  · intro _; rfl
  · intro rs r ih hv
    obtain ⟨h1, h2, h3⟩ := hv.init
    rw [rowBy_snoc]
    unfold stepR
    rw [ranksIn_snoc, ranksIn_map, ih h1]
    congr 2
    obtain ⟨k, rfl⟩ : ∃ k : Nat, r = k := ⟨r.toNat, by omega⟩
    rw [List.filter_map, List.length_map]
    have e : ((rowBy rs).filter ((fun y => decide (y < (k : Int))) ∘ bump (k : Int))).length = k := by
      refine Eq.trans (congrArg List.length (List.filter_congr ?_)) (less_count (rowBy_perm rs h1) (show k ≤ rs.length by omega))
      intro y _
      show decide (bump (k : Int) y < (k : Int)) = decide (y < (k : Int))
      simp only [bump_ltr]
    rw [e]
end DL
namespace DL
open PySem L2
def S_is_whole : SEnv → R Out :=
  (sRet (eAnd (eUn (oIsi "int") (eVar 0)) (eUn oNot (eUn (oIsi "bool") (eVar 0)))))
def m_is_whole : List D → R D := runX 1 S_is_whole
def S_is_between : SEnv → R Out :=
  (sRet (eAnd (eCall (callF 1 m_is_whole) (aCons (eVar 0) aNil)) (eChain oLe oLe (eVar 1) (eVar 0) (eVar 2))))
def m_is_between : List D → R D := runX 3 S_is_between
def S_is_row : SEnv → R Out :=
  (sSeq (sIf (bOr (bNot (bE (eUn (oIsi "list") (eVar 0)))) (bOr (bNot (bE (eChain oLe oLe (eC (.int 1)) (eCall oLen (aCons (eVar 0) aNil)) (eC (.int 60))))) (bNot (bE (eCall oAll (aCons (eNew (eLc (iOf (eVar 0)) (.nm 1) bYes (eCall (callF 1 m_is_whole) (aCons (eVar 1) aNil)) [1])) aNil))))))
  (sRet (eC (.bl false)))
  sNext)
  (sRet (eOp oEq (eNew (eCallN oSorted (aCons (eVar 0) aNil))) (eNew (eUnN (oRange (.int 0)) (eCall oLen (aCons (eVar 0) aNil)))))))
def m_is_row : List D → R D := runX 2 S_is_row
def S_check_row : SEnv → R Out :=
  (sIf (bNot (bE (eCall (callF 1 m_is_row) (aCons (eVar 0) aNil))))
  (sRaise "BadRow")
  sNext)
def m_check_row : List D → R D := runX 1 S_check_row
def S_check_ranks : SEnv → R Out :=
  (sSeq (sIf (bOr (bNot (bE (eUn (oIsi "list") (eVar 0)))) (bNot (bE (eChain oLe oLe (eC (.int 1)) (eCall oLen (aCons (eVar 0) aNil)) (eC (.int 60))))))
  (sRaise "BadRanks")
  sNext)
  (sIf (bNot (bE (eCall oAll (aCons (eNew (eLc (iEn (eVar 0)) (.tp (.cons (.nm 1) (.cons (.nm 2) .nil))) bYes (eCall (callF 3 m_is_between) (aCons (eVar 2) (aCons (eC (.int 0)) (aCons (eVar 1) aNil)))) [1, 2])) aNil))))
  (sRaise "BadRanks")
  sNext))
def m_check_ranks : List D → R D := runX 3 S_check_ranks
def S_ranks_in : SEnv → R Out :=
  (sRetN (eLc (iEn (eVar 0)) (.tp (.cons (.nm 1) (.cons (.nm 2) .nil))) bYes (eCall oLen (aCons (eNew (eLc (iOf (eNew (eSl (eVar 0) pNo (pSome (eVar 1))))) (.nm 3) (bE (eOp oLt (eVar 3) (eVar 2))) (eVar 3) [3])) aNil)) [1, 2]))
def m_ranks_in : List D → R (List D) := runN 4 S_ranks_in
def S_row_by_ranks : SEnv → R Out :=
  (sSeq (sAsgNH 1 (eLst aNil))
  (sSeq (sFor (iOf (eVar 0)) (.nm 2)
  (sSeq (sAsgN 1 (eLc (iOf (eVar 1)) (.nm 3) bYes (eIf (bE (eOp oGe (eVar 3) (eVar 2))) (eOp oAdd (eVar 3) (eC (.int 1))) (eVar 3)) [3]))
  (sAppH 1 (eVar 2))))
  (sRetO 1)))
def m_row_by_ranks : List D → R (List D) := runN 4 S_row_by_ranks
def S_highs_in : SEnv → R Out :=
  (sRetN (eLc (iEn (eVar 0)) (.tp (.cons (.nm 1) (.cons (.nm 2) .nil))) (bE (eOp oEq (eVar 2) (eVar 1))) (eVar 1) [1, 2]))
def m_highs_in : List D → R (List D) := runN 3 S_highs_in
def S_lows_in : SEnv → R Out :=
  (sRetN (eLc (iEn (eVar 0)) (.tp (.cons (.nm 1) (.cons (.nm 2) .nil))) (bE (eOp oEq (eVar 2) (eC (.int 0)))) (eVar 1) [1, 2]))
def m_lows_in : List D → R (List D) := runN 3 S_lows_in
def S_inversions_in : SEnv → R Out :=
  (sRet (eCall oSum (aCons (eNew (eLc (iEn (eVar 0)) (.tp (.cons (.nm 1) (.cons (.nm 2) .nil))) bYes (eOp oSub (eVar 1) (eVar 2)) [1, 2])) aNil)))
def m_inversions_in : List D → R D := runX 3 S_inversions_in
def S_ranks_of : SEnv → R Out :=
  (sSeq (sExpr (eCall (callF 1 m_check_row) (aCons (eVar 0) aNil)))
  (sRetN (eCallN (callF 1 m_ranks_in) (aCons (eVar 0) aNil))))
def m_ranks_of : List D → R (List D) := runN 1 S_ranks_of
def S_row_of : SEnv → R Out :=
  (sSeq (sExpr (eCall (callF 1 m_check_ranks) (aCons (eVar 0) aNil)))
  (sRetN (eCallN (callF 1 m_row_by_ranks) (aCons (eVar 0) aNil))))
def m_row_of : List D → R (List D) := runN 1 S_row_of
def S_highs_of : SEnv → R Out :=
  (sSeq (sExpr (eCall (callF 1 m_check_row) (aCons (eVar 0) aNil)))
  (sRetN (eCallN (callF 1 m_highs_in) (aCons (eNew (eCallN (callF 1 m_ranks_in) (aCons (eVar 0) aNil))) aNil))))
def m_highs_of : List D → R (List D) := runN 1 S_highs_of
def S_lows_of : SEnv → R Out :=
  (sSeq (sExpr (eCall (callF 1 m_check_row) (aCons (eVar 0) aNil)))
  (sRetN (eCallN (callF 1 m_lows_in) (aCons (eNew (eCallN (callF 1 m_ranks_in) (aCons (eVar 0) aNil))) aNil))))
def m_lows_of : List D → R (List D) := runN 1 S_lows_of
def S_inversions : SEnv → R Out :=
  (sSeq (sExpr (eCall (callF 1 m_check_row) (aCons (eVar 0) aNil)))
  (sRet (eCall (callF 1 m_inversions_in) (aCons (eNew (eCallN (callF 1 m_ranks_in) (aCons (eVar 0) aNil))) aNil))))
def m_inversions : List D → R D := runX 1 S_inversions
def S__law_number : SEnv → R Out :=
  (sSeq (sPar [3, 4] (bsCons (bH (eOp oMod (eVar 0) (eC (.int 1000003)))) (bsCons (bH (eOp oMod (eOp oFdiv (eVar 0) (eC (.int 1000003))) (eC (.int 999983)))) bsNil)))
  (sSeq (sAsgH 5 (eOp oMod (eOp oAdd (eOp oAdd (eOp oMul (eOp oAdd (eVar 3) (eOp oMul (eC (.int 977)) (eVar 1))) (eC (.int 48271))) (eOp oMul (eC (.int 31)) (eVar 4))) (eOp oMod (eVar 2) (eC (.int 65521)))) (eC (.int 2147483647))))
  (sRet (eOp oAdd (eOp oMul (eOp oMod (eOp oMul (eVar 5) (eOp oAdd (eOp oAdd (eVar 5) (eOp oMul (eC (.int 31)) (eVar 1))) (eC (.int 7)))) (eC (.int 2147483629))) (eC (.int 65537))) (eVar 4)))))
def m__law_number : List D → R D := runX 6 S__law_number
def S__law_whole : SEnv → R Out :=
  (sRet (eAnd (eUn (oIsi "int") (eVar 0)) (eUn oNot (eUn (oIsi "bool") (eVar 0)))))
def m__law_whole : List D → R D := runX 1 S__law_whole
def S__law_drawn_row : SEnv → R Out :=
  (sSeq (sAsgH 3 (eIf (bE (eOp oNe (eVar 0) (eNew (eLst aNil)))) (eNew (eSl (eVar 0) pNo (pSome (eC (.int 63))))) (eNew (eLst (aCons (eC (.int 5)) aNil)))))
  (sSeq (sPar [4, 5] (bsCons (bH (eOp oAdd (eCall oSum (aCons (eVar 3) aNil)) (eVar 1))) (bsCons (bH (eNew (eLst aNil))) bsNil)))
  (sSeq (sAsgH 6 (eOp oMod (eOp oFdiv (eCall (callF 3 m__law_number) (aCons (eVar 4) (aCons (eOp oAdd (eVar 1) (eC (.int 1))) (aCons (eC (.int 3)) aNil)))) (eC (.int 3))) (eC (.int 4))))
  (sSeq (sFor (eCallN rg1 (aCons (eVar 2) aNil)) (.nm 7)
  (sSeq (sAsgH 8 (eOp oAdd (eOp oIx (eVar 3) (eOp oMod (eOp oAdd (eVar 7) (eVar 1)) (eCall oLen (aCons (eVar 3) aNil)))) (eOp oMul (eC (.int 7)) (eVar 7))))
  (sSeq (sAsgH 9 (eOp oFdiv (eCall (callF 3 m__law_number) (aCons (eVar 8) (aCons (eOp oAdd (eVar 7) (eVar 1)) (aCons (eVar 4) aNil)))) (eC (.int 11))))
  (sSeq (sAsgH 10 (eOp oMod (eOp oFdiv (eVar 9) (eC (.int 5))) (eOp oAdd (eVar 7) (eC (.int 1)))))
  (sSeq (sIf (bE (eOp oGt (eOp oMod (eVar 9) (eC (.int 5))) (eC (.int 0))))
  (sAsgH 10 (eOp oIx (eTup (aCons (eVar 10) (aCons (eVar 7) (aCons (eC (.int 0)) (aCons (eOp oMul (eVar 7) (eOp oMod (eVar 7) (eC (.int 2)))) aNil))))) (eVar 6)))
  sNext)
  (sAsgH 5 (eNew (eOpN oCat (eNew (eLc (iOf (eVar 5)) (.nm 11) bYes (eIf (bE (eOp oGe (eVar 11) (eVar 10))) (eOp oAdd (eVar 11) (eC (.int 1))) (eVar 11)) [11])) (eNew (eLst (aCons (eVar 10) aNil)))))))))))
  (sRet (eVar 5))))))
def m__law_drawn_row : List D → R D := runX 12 S__law_drawn_row
def S__law_highs : SEnv → R Out :=
  (sRetN (eLc (iEn (eVar 0)) (.tp (.cons (.nm 1) (.cons (.nm 2) .nil))) (bE (eOp oEq (eVar 2) (eCall oMax (aCons (eNew (eSl (eVar 0) pNo (pSome (eOp oAdd (eVar 1) (eC (.int 1)))))) aNil)))) (eVar 1) [1, 2]))
def m__law_highs : List D → R (List D) := runN 3 S__law_highs
def S__law_lows : SEnv → R Out :=
  (sRetN (eLc (iEn (eVar 0)) (.tp (.cons (.nm 1) (.cons (.nm 2) .nil))) (bE (eOp oEq (eVar 2) (eCall oMin (aCons (eNew (eSl (eVar 0) pNo (pSome (eOp oAdd (eVar 1) (eC (.int 1)))))) aNil)))) (eVar 1) [1, 2]))
def m__law_lows : List D → R (List D) := runN 3 S__law_lows
def S__law_inverted : SEnv → R Out :=
  (sRet (eCall oSum (aCons (eNew (eLc (iEn (eVar 0)) (.tp (.cons (.nm 1) (.cons (.nm 2) .nil))) bYes (eCall oLen (aCons (eNew (eLc (iOf (eNew (eSl (eVar 0) pNo (pSome (eVar 1))))) (.nm 3) (bE (eOp oGt (eVar 3) (eVar 2))) (eVar 3) [3])) aNil)) [1, 2])) aNil)))
def m__law_inverted : List D → R D := runX 4 S__law_inverted

theorem initS_def (n : Nat) (ds : List D) : initS n ds = ds.map VE.sh ++ List.replicate (n - ds.length) VE.un := rfl
theorem ev_whole (i : Int) : m_is_whole [.int i] = .ok (.bl true) := by
  simp [m_is_whole, S_is_whole, runX, initS]
theorem ev_between (i a b : Int) : m_is_between [.int i, .int a, .int b] = .ok (.bl (decide (a ≤ i) && decide (i ≤ b))) := by
  simp [m_is_between, S_is_between, runX, initS, ev_whole, List.replicate]
  by_cases h : a ≤ i <;> simp [h]

theorem lc_all {xs : List Int} {j : Nat} {te : Env → R D} {ρ : Env} {g : Int → D} (he : ∀ x ∈ xs, te (ρ.set j (some (.int x))) = .ok (g x)) : lcGo (.nm j) bYes te ρ (xs.map D.int) = .ok (xs.map g) := by
  rw [lc_nm D.int (fun _ => true) g xs (fun x _ => rfl) (fun x hx _ => he x hx), List.filter_eq_self.mpr (fun _ _ => rfl)]
theorem all_true {α : Type} (xs : List α) (f : α → Bool) : oAll [.lst (xs.map fun x => .bl (f x))] = .ok (.bl (xs.all f)) := by
  have h : (xs.map fun x => D.bl (f x)) = (xs.map f).map D.bl := by rw [List.map_map]; rfl
  rw [h, all_bls, List.all_map]; rfl
def isRow (xs : List Int) : Bool := decide (1 ≤ xs.length ∧ xs.length ≤ 60) && decide (isort xs = rgN 0 xs.length)
theorem ev_is_row (xs : List Int) : m_is_row [Li xs] = .ok (.bl (isRow xs)) := by
  unfold m_is_row runX S_is_row isRow
  by_cases h1 : 1 ≤ xs.length
  · have h1' : (1 : Int) ≤ xs.length := by omega
    by_cases h2 : xs.length ≤ 60
    · have h2' : (xs.length : Int) ≤ 60 := by omega
      have h3 : xs.length ≤ 100000 := by omega
      have h4 : rgOk 0 (xs.length : Int) := ⟨by omega, by omega, by omega, by omega⟩
      have h5 : lcGo (.nm 1) bYes (eCall (callF 1 m_is_whole) (aCons (eVar 1) aNil)) [some (Li xs), none] (xs.map D.int) = .ok (xs.map fun _ => .bl true) := lc_all (g := fun _ => .bl true) fun x _ => by simp [ev_whole]
      simp [initS, eLc, h5, h3, all_true, range_ok h4, rgI_eq, List.replicate, h1, h2, h1', h2']
    · have h2' : ¬ (xs.length : Int) ≤ 60 := by omega
      simp [initS, h1, h2, h1', h2', List.replicate]
  · have h1' : ¬ (1 : Int) ≤ xs.length := by omega
    simp [initS, h1, h1', List.replicate]
theorem ev_check_row {xs : List Int} (h : isRow xs = true) : m_check_row [Li xs] = .ok .non := by
  simp [m_check_row, S_check_row, runX, initS, ev_is_row, h]
theorem ev_check_row_no {xs : List Int} (h : isRow xs = false) : m_check_row [Li xs] = .err "BadRow" := by
  simp [m_check_row, S_check_row, runX, initS, ev_is_row, h]
/-! comprehensions over enumerate, no test -/
theorem lc_en1 {i j : Nat} {te : Env → R D} {ρ : Env} (g : Int × Nat → D) (xs : List Int) (he : ∀ x ∈ xs.zipIdx, te ((ρ.set i (some (.int (x.2 : Nat)))).set j (some (.int x.1))) = .ok (g x)) :
    lcGo (.tp (.cons (.nm i) (.cons (.nm j) .nil))) bYes te ρ ((xs.map D.int).mapIdx fun i d => D.tup [.int (i : Nat), d]) = .ok (xs.zipIdx.map g) := by
  rw [lc_en (fun _ => true) g xs (fun _ _ => rfl) (fun x hx _ => he x hx), List.filter_eq_self.mpr (fun _ _ => rfl)]
theorem ev_ranks_in {xs : List Int} (h : xs.length ≤ 1000) : m_ranks_in [Li xs] = .ok ((ranksIn xs).map D.int) := by
  have h0 : xs.length ≤ 100000 := by omega
  have h6 : lcGo (.tp (.cons (.nm 1) (.cons (.nm 2) .nil))) bYes (eCall oLen (aCons (eNew (eLc (iOf (eNew (eSl (eVar 0) pNo (pSome (eVar 1))))) (.nm 3) (bE (eOp oLt (eVar 3) (eVar 2))) (eVar 3) [3])) aNil)) [some (Li xs), none, none, none] ((xs.map D.int).mapIdx fun i d => D.tup [.int (i : Nat), d]) = .ok ((ranksIn xs).map D.int) := by
    rw [lc_en1 (fun p => .int (((xs.take p.2).filter fun y => decide (y < p.1)).length : Int)) xs (fun x hx => ?_)]
    · simp [ranksIn]
    · have hl : min x.2 xs.length ≤ 100000 := by omega
      have h5 : lcGo (.nm 3) (bE (eOp oLt (eVar 3) (eVar 2))) (eVar 3) [some (Li xs), some (.int (x.2 : Nat)), some (.int x.1), none] ((xs.take x.2).map D.int) = .ok (((xs.take x.2).filter fun y => decide (y < x.1)).map D.int) :=
        lc_nm D.int (fun y => decide (y < x.1)) D.int _ (fun y _ => by simp) (fun y _ _ => by simp)
      simp [cut_take, ← List.map_take, h5, hl]
  have h7 : iEn (eVar 0) [some (Li xs), none, none, none] = .ok ((xs.map D.int).mapIdx fun i d => D.tup [.int (i : Nat), d]) := iEn_ints (by simp)
  simp [m_ranks_in, S_ranks_in, runN, initS, List.replicate, h7, h6, h0]

theorem row_loop (xs : List Int) (ys : List Int) (hl : xs.length + ys.length ≤ 1000) (d0 d2 : VE) :
    ∃ d2', forGo (.nm 2) (sSeq (sAsgN 1 (eLc (iOf (eVar 1)) (.nm 3) bYes (eIf (bE (eOp oGe (eVar 3) (eVar 2))) (eOp oAdd (eVar 3) (eC (.int 1))) (eVar 3)) [3])) (sAppH 1 (eVar 2))) (xs.map D.int) [d0, .ow (ys.map D.int), d2, .un] = .ok (.nx [d0, .ow ((xs.foldl stepR ys).map D.int), d2', .un]) := by
  induction xs generalizing ys d2 with
  | nil => exact ⟨d2, rfl⟩
  | cons x xs ih =>
    simp only [List.length_cons] at hl
    have h0 : ys.length ≤ 100000 := by omega
    have h1 : ys.length < 100000 := by omega
    have h5 : lcGo (.nm 3) bYes (eIf (bE (eOp oGe (eVar 3) (eVar 2))) (eOp oAdd (eVar 3) (eC (.int 1))) (eVar 3)) [d0.fr, some (Li ys), some (.int x), none] (ys.map D.int) = .ok ((ys.map (bump x)).map D.int) := by
      rw [lc_all (g := fun y => .int (bump x y)) (fun y _ => ?_)]
      · simp
      · by_cases h : x ≤ y <;> simp [bump, h]
    obtain ⟨d2', e⟩ := ih (stepR ys x) (by simp [stepR]; omega) (.sh (.int x))
    refine ⟨d2', ?_⟩
    rw [List.map_cons]
    rw [for_cons (ap_tgNm 2 _)]
    simp [h0, h5, frE_cons, hdE_cons, h1]
    simpa [stepR] using e

theorem ev_row_by_ranks {rs : List Int} (h : rs.length ≤ 1000) : m_row_by_ranks [Li rs] = .ok ((rowBy rs).map D.int) := by
  obtain ⟨d2', e⟩ := row_loop rs [] (by simpa using h) (.sh (Li rs)) .un
  simp only [List.map_nil] at e
  simp [m_row_by_ranks, S_row_by_ranks, runN, initS, List.replicate, e, rowBy]
def highsIn (rs : List Int) : List Int := (rs.zipIdx.filter fun p => decide (p.1 = ((p.2 : Nat) : Int))).map fun p => ((p.2 : Nat) : Int)
def lowsIn (rs : List Int) : List Int := (rs.zipIdx.filter fun p => decide (p.1 = 0)).map fun p => ((p.2 : Nat) : Int)
def invIn (rs : List Int) : Int := (rs.zipIdx.map fun p => ((p.2 : Nat) : Int) - p.1).sum
theorem iEn_0 {ρ : Env} (xs : List Int) : iEn (eVar 0) (some (Li xs) :: ρ) = .ok ((xs.map D.int).mapIdx fun i d => D.tup [.int (i : Nat), d]) := iEn_ints (by simp)
theorem ev_highs_in {rs : List Int} (h : rs.length ≤ 1000) : m_highs_in [Li rs] = .ok ((highsIn rs).map D.int) := by
  have h0 : rs.length ≤ 100000 := by omega
  have h6 : lcGo (.tp (.cons (.nm 1) (.cons (.nm 2) .nil))) (bE (eOp oEq (eVar 2) (eVar 1))) (eVar 1) [some (Li rs), none, none] ((rs.map D.int).mapIdx fun i d => D.tup [.int (i : Nat), d]) = .ok ((highsIn rs).map D.int) := by
    rw [lc_en (fun p => decide (p.1 = ((p.2 : Nat) : Int))) (fun p => .int (p.2 : Nat)) rs (fun x _ => by simp) (fun x _ _ => by simp)]
    simp [highsIn]
  simp [m_highs_in, S_highs_in, runN, initS, List.replicate, iEn_0, h6, h0]
theorem ev_lows_in {rs : List Int} (h : rs.length ≤ 1000) : m_lows_in [Li rs] = .ok ((lowsIn rs).map D.int) := by
  have h0 : rs.length ≤ 100000 := by omega
  have h6 : lcGo (.tp (.cons (.nm 1) (.cons (.nm 2) .nil))) (bE (eOp oEq (eVar 2) (eC (.int 0)))) (eVar 1) [some (Li rs), none, none] ((rs.map D.int).mapIdx fun i d => D.tup [.int (i : Nat), d]) = .ok ((lowsIn rs).map D.int) := by
    rw [lc_en (fun p => decide (p.1 = 0)) (fun p => .int (p.2 : Nat)) rs (fun x _ => by simp) (fun x _ _ => by simp)]
    simp [lowsIn]
  simp [m_lows_in, S_lows_in, runN, initS, List.replicate, iEn_0, h6, h0]
theorem sum_map {α : Type} (xs : List α) (g : α → Int) : oSum [.lst (xs.map fun x => .int (g x))] = .ok (.int (xs.map g).sum) := by
  have h : (xs.map fun x => D.int (g x)) = (xs.map g).map D.int := by rw [List.map_map]; rfl
  rw [h, sum_ints]
theorem ev_inversions_in {rs : List Int} (h : rs.length ≤ 1000) : m_inversions_in [Li rs] = .ok (.int (invIn rs)) := by
  have h0 : rs.length ≤ 100000 := by omega
  have h6 : lcGo (.tp (.cons (.nm 1) (.cons (.nm 2) .nil))) bYes (eOp oSub (eVar 1) (eVar 2)) [some (Li rs), none, none] ((rs.map D.int).mapIdx fun i d => D.tup [.int (i : Nat), d]) = .ok (rs.zipIdx.map fun p => .int (((p.2 : Nat) : Int) - p.1)) :=
    lc_en1 (fun p => .int (((p.2 : Nat) : Int) - p.1)) rs (fun x _ => by simp)
  simp [m_inversions_in, S_inversions_in, runX, initS, List.replicate, iEn_0, h6, h0, sum_map, invIn]
/-! ranks -/
def isRanks (rs : List Int) : Bool := decide (1 ≤ rs.length ∧ rs.length ≤ 60) && rs.zipIdx.all fun p => decide (0 ≤ p.1) && decide (p.1 ≤ ((p.2 : Nat) : Int))
theorem ev_check_ranks {rs : List Int} (h : isRanks rs = true) : m_check_ranks [Li rs] = .ok .non := by
  unfold isRanks at h
  rw [Bool.and_eq_true, decide_eq_true_eq] at h
  obtain ⟨⟨a, b⟩, c⟩ := h
  have h1 : (1 : Int) ≤ rs.length := by omega
  have h2 : (rs.length : Int) ≤ 60 := by omega
  have h0 : rs.length ≤ 100000 := by omega
  have h6 : lcGo (.tp (.cons (.nm 1) (.cons (.nm 2) .nil))) bYes (eCall (callF 3 m_is_between) (aCons (eVar 2) (aCons (eC (.int 0)) (aCons (eVar 1) aNil)))) [some (Li rs), none, none] ((rs.map D.int).mapIdx fun i d => D.tup [.int (i : Nat), d]) = .ok (rs.zipIdx.map fun p => .bl (decide (0 ≤ p.1) && decide (p.1 ≤ ((p.2 : Nat) : Int)))) :=
    lc_en1 (fun p => .bl (decide (0 ≤ p.1) && decide (p.1 ≤ ((p.2 : Nat) : Int)))) rs (fun x _ => by simp [ev_between])
  simp [m_check_ranks, S_check_ranks, runX, initS, List.replicate, iEn_0, h6, h0, h1, h2]
  rw [all_true, c]
  simp
theorem isRanks_of {rs : List Int} (v : Valid rs) (h : 1 ≤ rs.length) (h2 : rs.length ≤ 60) : isRanks rs = true := by
  unfold isRanks
  rw [Bool.and_eq_true, decide_eq_true_eq]
  refine ⟨⟨h, h2⟩, List.all_eq_true.mpr fun p hp => ?_⟩
  have := v p.2 p.1 (mem_zipIdx_lt hp).2
  simp; omega
theorem isRow_of {rs : List Int} (v : Valid rs) (h : 1 ≤ rs.length) (h2 : rs.length ≤ 60) : isRow (rowBy rs) = true := by
  unfold isRow
  rw [Bool.and_eq_true, decide_eq_true_eq, rowBy_len, decide_eq_true_eq]
  refine ⟨⟨h, h2⟩, (sort_uniq (rowBy_perm rs v).symm ?_).symm⟩
  unfold rgN
  refine List.pairwise_map.mpr (List.Pairwise.imp ?_ List.pairwise_lt_range)
  intro a b hab; omega
theorem isRow_len {xs : List Int} (h : isRow xs = true) : 1 ≤ xs.length ∧ xs.length ≤ 60 := by
  unfold isRow at h
  rw [Bool.and_eq_true, decide_eq_true_eq] at h
  exact h.1
/-! rows -/
theorem ev_ranks_of {xs : List Int} (h : isRow xs = true) : m_ranks_of [Li xs] = .ok ((ranksIn xs).map D.int) := by
  have hl := isRow_len h
  simp [m_ranks_of, S_ranks_of, runN, initS, ev_check_row h, ev_ranks_in (show xs.length ≤ 1000 by omega)]
theorem ranksIn_len (xs : List Int) : (ranksIn xs).length = xs.length := by simp [ranksIn]
theorem ev_row_of {rs : List Int} (h : isRanks rs = true) : m_row_of [Li rs] = .ok ((rowBy rs).map D.int) := by
  have hl : rs.length ≤ 60 := by
    unfold isRanks at h
    rw [Bool.and_eq_true, decide_eq_true_eq] at h
    exact h.1.2
  simp [m_row_of, S_row_of, runN, initS, ev_check_ranks h, ev_row_by_ranks (show rs.length ≤ 1000 by omega)]
theorem ev_highs_of {xs : List Int} (h : isRow xs = true) : m_highs_of [Li xs] = .ok ((highsIn (ranksIn xs)).map D.int) := by
  have hl := isRow_len h
  simp [m_highs_of, S_highs_of, runN, initS, ev_check_row h, ev_ranks_in (show xs.length ≤ 1000 by omega), ev_highs_in (show (ranksIn xs).length ≤ 1000 by rw [ranksIn_len]; omega)]
theorem ev_lows_of {xs : List Int} (h : isRow xs = true) : m_lows_of [Li xs] = .ok ((lowsIn (ranksIn xs)).map D.int) := by
  have hl := isRow_len h
  simp [m_lows_of, S_lows_of, runN, initS, ev_check_row h, ev_ranks_in (show xs.length ≤ 1000 by omega), ev_lows_in (show (ranksIn xs).length ≤ 1000 by rw [ranksIn_len]; omega)]
theorem ev_inversions {xs : List Int} (h : isRow xs = true) : m_inversions [Li xs] = .ok (.int (invIn (ranksIn xs))) := by
  have hl := isRow_len h
  simp [m_inversions, S_inversions, runX, initS, ev_check_row h, ev_ranks_in (show xs.length ≤ 1000 by omega), ev_inversions_in (show (ranksIn xs).length ≤ 1000 by rw [ranksIn_len]; omega)]
end DL
/-! what the laws' own helpers mean -/
namespace DL
open PySem L2
def numF (c a w : Int) : Int :=
  ((((c % 1000003 + 977 * a) * 48271 + 31 * (c / 1000003 % 999983) + w % 65521) % 2147483647) * (((c % 1000003 + 977 * a) * 48271 + 31 * (c / 1000003 % 999983) + w % 65521) % 2147483647 + 31 * a + 7)) % 2147483629 * 65537 + c / 1000003 % 999983
theorem mulL {i j : Int} (h : 0 ≤ i ∧ i < 4294967296) : oMul (.int i) (.int j) = .ok (.int (i * j)) := mul_int (.inl ⟨by omega, by omega⟩)
theorem mulR {i j : Int} (h : 0 ≤ j ∧ j < 4294967296) : oMul (.int i) (.int j) = .ok (.int (i * j)) := mul_int (.inr ⟨by omega, by omega⟩)
theorem ev_number (c a w : Int) : m__law_number [.int c, .int a, .int w] = .ok (.int (numF c a w)) := by
  have m1 : oMul (.int 977) (.int a) = .ok (.int (977 * a)) := mulL (by decide)
  have m2 : ∀ x : Int, oMul (.int x) (.int 48271) = .ok (.int (x * 48271)) := fun x => mulR (by decide)
  have m3 : ∀ x : Int, oMul (.int 31) (.int x) = .ok (.int (31 * x)) := fun x => mulL (by decide)
  have m4 : ∀ x : Int, oMul (.int x) (.int 65537) = .ok (.int (x * 65537)) := fun x => mulR (by decide)
  have m5 : ∀ x y : Int, oMul (.int (x % 2147483647)) (.int y) = .ok (.int (x % 2147483647 * y)) := fun x y => mulL ⟨by omega, by omega⟩
  simp [m__law_number, S__law_number, runX, initS, List.replicate, mod_int, fdiv_int, m1, m2, m3, m4, m5, numF]
theorem ev_lwhole (i : Int) : m__law_whole [.int i] = .ok (.bl true) := by
  simp [m__law_whole, S__law_whole, runX, initS]
/-! a row by the cells -/
theorem ix_lst {ds : List D} {i : Int} {d : D} (h : atI ds i = some d) : oIx (.lst ds) (.int i) = .ok d := by
  unfold oIx seqD
  simp [h]
theorem ix_tup_ok {ds : List D} {i : Int} {d : D} (h : atI ds i = some d) : oIx (.tup ds) (.int i) = .ok d := by
  unfold oIx seqD
  simp [h]
theorem atI_of {α : Type} {ds : List α} {k : Nat} (h : k < ds.length) : atI ds (k : Int) = some ds[k] := by
  exact atI_nat (List.getElem?_eq_getElem h)

def cellsOf (ns : List Int) : List Int := if ns = [] then [5] else ns.take 63
theorem cells_pos (ns : List Int) : 0 < (cellsOf ns).length := by
  unfold cellsOf
  split
  · simp
  · rename_i h
    have : 0 < ns.length := List.length_pos_iff.mpr h
    rw [List.length_take]; omega
theorem cut_63 (ns : List Int) : cutD ns none (some 63) = ns.take 63 := cut_take ns 63
@[simp high] theorem ev_cells {ρ : Env} (ns : List Int) : eIf (bE (eOp oNe (eVar 0) (eNew (eLst aNil)))) (eNew (eSl (eVar 0) pNo (pSome (eC (.int 63))))) (eNew (eLst (aCons (eC (.int 5)) aNil))) (some (.scr ns) :: ρ) = .ok (Li (cellsOf ns)) := by
  unfold cellsOf
  by_cases h : ns = []
  · simp [oNe_scr0, h]
  · simp [oNe_scr0, h, cut_63]
theorem cell_at (ns : List Int) (i : Int) : ∃ c, oIx (Li (cellsOf ns)) (.int (i % ((cellsOf ns).length : Int))) = .ok (.int c) := by
  have hp := cells_pos ns
  have h1 : 0 ≤ i % ((cellsOf ns).length : Int) := Int.emod_nonneg _ (by omega)
  have h2 : i % ((cellsOf ns).length : Int) < (cellsOf ns).length := Int.emod_lt_of_pos _ (by omega)
  obtain ⟨k, hk⟩ : ∃ k : Nat, i % ((cellsOf ns).length : Int) = k := ⟨(i % ((cellsOf ns).length : Int)).toNat, by omega⟩
  rw [hk]
  have hlt : k < (cellsOf ns).length := by omega
  refine ⟨(cellsOf ns)[k], ix_lst ?_⟩
  rw [atI_of (by simpa using hlt), List.getElem_map]
theorem tup4 (a b c d : D) (k : Int) (h : 0 ≤ k ∧ k < 4) : oIx (.tup [a, b, c, d]) (.int k) = .ok (if k = 0 then a else if k = 1 then b else if k = 2 then c else d) := by
  have : k = 0 ∨ k = 1 ∨ k = 2 ∨ k = 3 := by omega
  rcases this with rfl | rfl | rfl | rfl <;> rfl
theorem stepR_comp {ρ : Env} {r : Int} {xs : List Int} (h : xs.length ≤ 1000) (i j : Nat) (he : ∀ x : Int, (ρ.set i (some (.int x)))[i]? = some (some (.int x))) (hr : ∀ x : Int, (ρ.set i (some (.int x)))[j]? = some (some (.int r))) :
    lcGo (.nm i) bYes (eIf (bE (eOp oGe (eVar i) (eVar j))) (eOp oAdd (eVar i) (eC (.int 1))) (eVar i)) ρ (xs.map D.int) = .ok ((xs.map (bump r)).map D.int) := by
  rw [lc_all (g := fun y => .int (bump r y)) (fun y _ => ?_)]
  · simp
  · have e1 : eVar i (ρ.set i (some (.int y))) = .ok (.int y) := by unfold eVar; rw [he]
    have e2 : eVar j (ρ.set i (some (.int y))) = .ok (.int r) := by unfold eVar; rw [hr]
    by_cases h : r ≤ y <;> simp [e1, e2, bump, h]
theorem cat_ok {a b : List D} (h : a.length + b.length ≤ 100000) : oCat (.lst a) (.lst b) = .ok (a ++ b) := if_pos h
def drawBody : SEnv → R Out := (sSeq (sAsgH 8 (eOp oAdd (eOp oIx (eVar 3) (eOp oMod (eOp oAdd (eVar 7) (eVar 1)) (eCall oLen (aCons (eVar 3) aNil)))) (eOp oMul (eC (.int 7)) (eVar 7))))
    (sSeq (sAsgH 9 (eOp oFdiv (eCall (callF 3 m__law_number) (aCons (eVar 8) (aCons (eOp oAdd (eVar 7) (eVar 1)) (aCons (eVar 4) aNil)))) (eC (.int 11))))
    (sSeq (sAsgH 10 (eOp oMod (eOp oFdiv (eVar 9) (eC (.int 5))) (eOp oAdd (eVar 7) (eC (.int 1)))))
    (sSeq (sIf (bE (eOp oGt (eOp oMod (eVar 9) (eC (.int 5))) (eC (.int 0))))
    (sAsgH 10 (eOp oIx (eTup (aCons (eVar 10) (aCons (eVar 7) (aCons (eC (.int 0)) (aCons (eOp oMul (eVar 7) (eOp oMod (eVar 7) (eC (.int 2)))) aNil))))) (eVar 6)))
    sNext)
    (sAsgH 5 (eNew (eOpN oCat (eNew (eLc (iOf (eVar 5)) (.nm 11) bYes (eIf (bE (eOp oGe (eVar 11) (eVar 10))) (eOp oAdd (eVar 11) (eC (.int 1))) (eVar 11)) [11])) (eNew (eLst (aCons (eVar 10) aNil))))))))))
def drawEnv (a b m c w : D) (row : List Int) (kd d7 d8 d9 d10 : VE) : SEnv := [.sh a, .sh b, .sh m, .sh c, .sh w, .sh (Li row), kd, d7, d8, d9, d10, .un]
theorem draw_first (a m : D) (b w kd c n : Int) (cs row : List Int) (i : Nat) (d7 d8 d9 d10 : VE) (hlen : (0 : Int) < cs.length) (hc : oIx (Li cs) (.int (((i : Int) + b) % (cs.length : Int))) = .ok (.int c)) (hn : n = numF (c + 7 * (i : Int)) ((i : Int) + b) w / 11) (T : SEnv → R Out) :
    (sSeq (sAsgH 8 (eOp oAdd (eOp oIx (eVar 3) (eOp oMod (eOp oAdd (eVar 7) (eVar 1)) (eCall oLen (aCons (eVar 3) aNil)))) (eOp oMul (eC (.int 7)) (eVar 7))))
    (sSeq (sAsgH 9 (eOp oFdiv (eCall (callF 3 m__law_number) (aCons (eVar 8) (aCons (eOp oAdd (eVar 7) (eVar 1)) (aCons (eVar 4) aNil)))) (eC (.int 11)))) T)) ((drawEnv a (.int b) m (Li cs) (.int w) row (.sh (.int kd)) d7 d8 d9 d10).set 7 (.sh (.int i))) = T [.sh a, .sh (.int b), .sh m, .sh (Li cs), .sh (.int w), .sh (Li row), .sh (.int kd), .sh (.int i), .sh (.int (c + 7 * (i : Int))), .sh (.int n), d10, .un] := by
  have m1 : oMul (.int 7) (.int (i : Int)) = .ok (.int (7 * (i : Int))) := mulL (by decide)
  have m3 : oMod (.int ((i : Int) + b)) (.int (cs.length : Int)) = .ok (.int (((i : Int) + b) % (cs.length : Int))) := mod_int hlen
  simp [drawEnv, hdE_cons, m1, m3, hc, ev_number, fdiv_int, ← hn]
theorem draw_step (a m : D) (b w kd : Int) (ns row : List Int) (i : Nat) (d7 d8 d9 d10 : VE) (hk0 : 0 ≤ kd ∧ kd < 4) (hlr : row.length = i) (hi : i ≤ 1000) :
    ∃ r e7 e8 e9 e10, 0 ≤ r ∧ r ≤ (i : Int) ∧ drawBody ((drawEnv a (.int b) m (Li (cellsOf ns)) (.int w) row (.sh (.int kd)) d7 d8 d9 d10).set 7 (.sh (.int i))) = .ok (.nx (drawEnv a (.int b) m (Li (cellsOf ns)) (.int w) (stepR row r) (.sh (.int kd)) e7 e8 e9 e10)) := by
  obtain ⟨c, hc⟩ := cell_at ns ((i : Int) + b)
  have m1 : oMul (.int 7) (.int (i : Int)) = .ok (.int (7 * (i : Int))) := mulL (by decide)
  have m2 : oMul (.int (i : Int)) (.int ((i : Int) % 2)) = .ok (.int ((i : Int) * ((i : Int) % 2))) := mulR ⟨by omega, by omega⟩
  have hlen : (0 : Int) < (cellsOf ns).length := by have := cells_pos ns; omega
  have m3 : oMod (.int ((i : Int) + b)) (.int ((cellsOf ns).length : Int)) = .ok (.int (((i : Int) + b) % ((cellsOf ns).length : Int))) := mod_int hlen
  obtain ⟨n, hn⟩ : ∃ n : Int, n = numF (c + 7 * (i : Int)) ((i : Int) + b) w / 11 := ⟨_, rfl⟩
  have m4 : oMod (.int (n / 5)) (.int ((i : Int) + 1)) = .ok (.int (n / 5 % ((i : Int) + 1))) := mod_int (by omega)
  have hlr1 : row.length ≤ 100000 := by omega
  have hlr2 : row.length + 1 ≤ 100000 := by omega
  have q1 : 0 ≤ n / 5 % ((i : Int) + 1) := Int.emod_nonneg _ (by omega)
  have q2 : n / 5 % ((i : Int) + 1) < (i : Int) + 1 := Int.emod_lt_of_pos _ (by omega)
  have cat : ∀ r : Int, oCat (.lst (row.map (D.int ∘ bump r))) (.lst [.int r]) = .ok (row.map (D.int ∘ bump r) ++ [.int r]) := fun r => cat_ok (by rw [List.length_map]; exact hlr2)
  have step : ∀ r : Int, lcGo (.nm 11) bYes (eIf (bE (eOp oGe (eVar 11) (eVar 10))) (eOp oAdd (eVar 11) (eC (.int 1))) (eVar 11)) [some a, some (.int b), some m, some (Li (cellsOf ns)), some (.int w), some (Li row), some (.int kd), some (.int (i : Int)), some (.int (c + 7 * (i : Int))), some (.int n), some (.int r), none] (row.map D.int) = .ok ((row.map (bump r)).map D.int) := fun r => stepR_comp (by omega) 11 10 (fun _ => rfl) (fun _ => rfl)
  unfold drawBody
  rw [draw_first a m b w kd c n (cellsOf ns) row i d7 d8 d9 d10 hlen hc hn]
  by_cases h5 : 0 < n % 5
  · have t4 := tup4 (.int (n / 5 % ((i : Int) + 1))) (.int (i : Int)) (.int 0) (.int ((i : Int) * ((i : Int) % 2))) kd hk0
    obtain ⟨r, hr0, hr1, hr⟩ : ∃ r : Int, 0 ≤ r ∧ r ≤ i ∧ (if kd = 0 then D.int (n / 5 % ((i : Int) + 1)) else if kd = 1 then .int (i : Int) else if kd = 2 then .int 0 else .int ((i : Int) * ((i : Int) % 2))) = .int r := by
      have e2 : (i : Int) % 2 = 0 ∨ (i : Int) % 2 = 1 := by omega
      split
      · exact ⟨_, q1, by omega, rfl⟩
      · split
        · exact ⟨_, by omega, by omega, rfl⟩
        · split
          · exact ⟨_, by omega, by omega, rfl⟩
          · refine ⟨_, ?_, ?_, rfl⟩
            · rcases e2 with e | e <;> rw [e] <;> omega
            · rcases e2 with e | e <;> rw [e] <;> omega
    rw [hr] at t4
    refine ⟨r, .sh (.int i), .sh (.int (c + 7 * (i : Int))), .sh (.int n), .sh (.int r), hr0, hr1, ?_⟩
    simp [drawEnv, fdiv_int, m4, mod_int, h5, frE_cons, hdE_cons, m2, t4, step, hlr1, cat, stepR]
  · refine ⟨n / 5 % ((i : Int) + 1), .sh (.int i), .sh (.int (c + 7 * (i : Int))), .sh (.int n), .sh (.int (n / 5 % ((i : Int) + 1))), q1, by omega, ?_⟩
    simp [drawEnv, fdiv_int, m4, mod_int, h5, frE_cons, hdE_cons, step, hlr1, cat, stepR]
theorem draw_loop (a m : D) (b w kd : Int) (ns : List Int) (hk0 : 0 ≤ kd ∧ kd < 4) (n : Nat) (hn : n ≤ 1000) :
    ∃ rs e7 e8 e9 e10, Valid rs ∧ rs.length = n ∧ forGo (.nm 7) drawBody ((rgN 0 n).map D.int) (drawEnv a (.int b) m (Li (cellsOf ns)) (.int w) [] (.sh (.int kd)) .un .un .un .un) = .ok (.nx (drawEnv a (.int b) m (Li (cellsOf ns)) (.int w) (rowBy rs) (.sh (.int kd)) e7 e8 e9 e10)) := by
  obtain ⟨σ', e, rs, d7, d8, d9, d10, hv, hl, rfl⟩ := forGo_inv (j := 7) (S := drawBody) D.int (fun k σ => ∃ rs d7 d8 d9 d10, Valid rs ∧ rs.length = k ∧ σ = drawEnv a (.int b) m (Li (cellsOf ns)) (.int w) (rowBy rs) (.sh (.int kd)) d7 d8 d9 d10) (rgN 0 n) 0
    (drawEnv a (.int b) m (Li (cellsOf ns)) (.int w) [] (.sh (.int kd)) .un .un .un .un) ⟨[], .un, .un, .un, .un, (fun i r h => by simp at h), rfl, rfl⟩ (by
      rintro i x σ hx ⟨rs, d7, d8, d9, d10, hv, hl, rfl⟩
      obtain ⟨hi, hx⟩ := rgN_get hx
      obtain rfl : x = (i : Int) := by omega
      obtain ⟨r, e7, e8, e9, e10, h1, h2, h3⟩ := draw_step a m b w kd ns (rowBy rs) i d7 d8 d9 d10 hk0 (by rw [rowBy_len]; omega) (by omega)
      exact ⟨_, h3, rs ++ [r], e7, e8, e9, e10, hv.snoc h1 (by omega), by simp; omega, by rw [rowBy_snoc]⟩)
  exact ⟨rs, d7, d8, d9, d10, hv, by simpa [rgN_len] using hl, e⟩
theorem ev_drawn_row (ns : List Int) (b m : Int) (hm : 0 ≤ m ∧ m ≤ 1000) : ∃ rs, Valid rs ∧ rs.length = m.toNat ∧ m__law_drawn_row [.scr ns, .int b, .int m] = .ok (Li (rowBy rs)) := by
  obtain ⟨kd, hk⟩ : ∃ kd : Int, kd = numF ((cellsOf ns).sum + b) (b + 1) 3 / 3 % 4 := ⟨_, rfl⟩
  obtain ⟨rs, e7, e8, e9, e10, hv, hl, e⟩ := draw_loop (.scr ns) (.int m) b ((cellsOf ns).sum + b) kd ns (by omega) m.toNat (by omega)
  refine ⟨rs, hv, hl, ?_⟩
  unfold m__law_drawn_row runX S__law_drawn_row
  have hm1 : -1000000 ≤ m ∧ m ≤ 1000000 := by omega
  unfold drawBody drawEnv at e
  simp only [Li, List.map_nil] at e
  simp [initS, List.replicate, rg1_ok hm1, ev_number, fdiv_int, mod_int, ← hk, e]
end DL
/-! highs, lows, inversions by own looks -/
namespace DL
open PySem L2
def highsRow (xs : List Int) : List Int := (xs.zipIdx.filter fun p => decide (p.1 = maxI (xs.take (p.2 + 1)))).map fun p => ((p.2 : Nat) : Int)
def lowsRow (xs : List Int) : List Int := (xs.zipIdx.filter fun p => decide (p.1 = minI (xs.take (p.2 + 1)))).map fun p => ((p.2 : Nat) : Int)
def invRow (xs : List Int) : Int := (xs.zipIdx.map fun p => (((xs.take p.2).filter fun y => decide (p.1 < y)).length : Int)).sum
theorem max_ints {ns : List Int} (h : 0 < ns.length) : oMax [.lst (ns.map D.int)] = .ok (.int (maxI ns)) := by
  simp [oMax, onInts, h]
theorem min_ints {ns : List Int} (h : 0 < ns.length) : oMin [.lst (ns.map D.int)] = .ok (.int (minI ns)) := by
  simp [oMin, onInts, h]
theorem cut_take1 {α : Type} (xs : List α) (k : Nat) : cutD xs none (some ((k : Int) + 1)) = xs.take (k + 1) := cut_take xs (k + 1)
theorem take_pos {xs : List Int} {x : Int × Nat} (hx : x ∈ xs.zipIdx) : 0 < (xs.take (x.2 + 1)).length := by
  have := (mem_zipIdx_lt hx).1
  rw [List.length_take]; omega
theorem ev_lhighs {xs : List Int} (h : xs.length ≤ 1000) : m__law_highs [Li xs] = .ok ((highsRow xs).map D.int) := by
  have h0 : xs.length ≤ 100000 := by omega
  have h6 : lcGo (.tp (.cons (.nm 1) (.cons (.nm 2) .nil))) (bE (eOp oEq (eVar 2) (eCall oMax (aCons (eNew (eSl (eVar 0) pNo (pSome (eOp oAdd (eVar 1) (eC (.int 1)))))) aNil)))) (eVar 1) [some (Li xs), none, none] ((xs.map D.int).mapIdx fun i d => D.tup [.int (i : Nat), d]) = .ok ((highsRow xs).map D.int) := by
    rw [lc_en (fun p => decide (p.1 = maxI (xs.take (p.2 + 1)))) (fun p => .int (p.2 : Nat)) xs (fun x hx => by
      simp [cut_take1, ← List.map_take, max_ints (take_pos hx)]) (fun x _ _ => by simp)]
    simp [highsRow]
  simp [m__law_highs, S__law_highs, runN, initS, List.replicate, iEn_0, h6, h0]
theorem ev_llows {xs : List Int} (h : xs.length ≤ 1000) : m__law_lows [Li xs] = .ok ((lowsRow xs).map D.int) := by
  have h0 : xs.length ≤ 100000 := by omega
  have h6 : lcGo (.tp (.cons (.nm 1) (.cons (.nm 2) .nil))) (bE (eOp oEq (eVar 2) (eCall oMin (aCons (eNew (eSl (eVar 0) pNo (pSome (eOp oAdd (eVar 1) (eC (.int 1)))))) aNil)))) (eVar 1) [some (Li xs), none, none] ((xs.map D.int).mapIdx fun i d => D.tup [.int (i : Nat), d]) = .ok ((lowsRow xs).map D.int) := by
    rw [lc_en (fun p => decide (p.1 = minI (xs.take (p.2 + 1)))) (fun p => .int (p.2 : Nat)) xs (fun x hx => by
      simp [cut_take1, ← List.map_take, min_ints (take_pos hx)]) (fun x _ _ => by simp)]
    simp [lowsRow]
  simp [m__law_lows, S__law_lows, runN, initS, List.replicate, iEn_0, h6, h0]
theorem ev_linverted {xs : List Int} (h : xs.length ≤ 1000) : m__law_inverted [Li xs] = .ok (.int (invRow xs)) := by
  have h0 : xs.length ≤ 100000 := by omega
  have h6 : lcGo (.tp (.cons (.nm 1) (.cons (.nm 2) .nil))) bYes (eCall oLen (aCons (eNew (eLc (iOf (eNew (eSl (eVar 0) pNo (pSome (eVar 1))))) (.nm 3) (bE (eOp oGt (eVar 3) (eVar 2))) (eVar 3) [3])) aNil)) [some (Li xs), none, none, none] ((xs.map D.int).mapIdx fun i d => D.tup [.int (i : Nat), d]) = .ok (xs.zipIdx.map fun p => .int (((xs.take p.2).filter fun y => decide (p.1 < y)).length : Int)) := by
    refine lc_en1 (fun p => .int (((xs.take p.2).filter fun y => decide (p.1 < y)).length : Int)) xs (fun x hx => ?_)
    have hl : min x.2 xs.length ≤ 100000 := by omega
    have h5 : lcGo (.nm 3) (bE (eOp oGt (eVar 3) (eVar 2))) (eVar 3) [some (Li xs), some (.int (x.2 : Nat)), some (.int x.1), none] ((xs.take x.2).map D.int) = .ok (((xs.take x.2).filter fun y => decide (x.1 < y)).map D.int) :=
      lc_nm D.int (fun y => decide (x.1 < y)) D.int _ (fun y _ => by simp) (fun y _ _ => by simp)
    simp [cut_take, ← List.map_take, h5, hl]
  simp [m__law_inverted, S__law_inverted, runX, initS, List.replicate, iEn_0, h6, h0, sum_map, invRow]
/-! the same by ranks -/
theorem filter_range {P : Int → Nat → Bool} (ys : List Int) : (ys.zipIdx.filter fun p => P p.1 p.2).map (fun p => ((p.2 : Nat) : Int)) = ((List.range ys.length).filter fun i => P (ys.getD i 0) i).map fun i => ((i : Nat) : Int) := by
  have e : ys.zipIdx = (List.range ys.length).map fun i => (ys.getD i 0, i) := by
    apply List.ext_getElem?
    intro i
    rw [List.getElem?_zipIdx, List.getElem?_map]
    by_cases h : i < ys.length
    · rw [List.getElem?_range h, List.getElem?_eq_getElem h]
      simp [List.getD, h]
    · rw [List.getElem?_eq_none (by omega), List.getElem?_eq_none (by simpa using h)]
      rfl
  rw [e, List.filter_map, List.map_map]
  rfl
theorem ranksIn_get {xs : List Int} {i : Nat} (h : i < xs.length) : (ranksIn xs).getD i 0 = (((xs.take i).filter fun y => decide (y < xs[i])).length : Int) := by
  unfold ranksIn
  rw [List.getD_eq_getElem?_getD, List.getElem?_map, List.getElem?_zipIdx, List.getElem?_eq_getElem h]
  simp
theorem nodup_take {xs : List Int} (hn : xs.Nodup) {i : Nat} (h : i < xs.length) {y : Int} (hy : y ∈ xs.take i) : y ≠ xs[i] := by
  intro e
  obtain ⟨j, hj, hjy⟩ := List.mem_iff_getElem.mp hy
  rw [List.length_take] at hj
  rw [List.getElem_take] at hjy
  have : j = i := (List.getElem_inj hn).mp (hjy.trans e)
  omega
theorem take_succ_mem {xs : List Int} {i : Nat} (h : i < xs.length) {y : Int} : y ∈ xs.take (i + 1) ↔ y ∈ xs.take i ∨ y = xs[i] := by
  rw [List.take_add_one, List.getElem?_eq_getElem h, List.mem_append]
  simp only [Option.toList_some, List.mem_singleton]
theorem high_iff {xs : List Int} (hn : xs.Nodup) {i : Nat} (h : i < xs.length) : (xs[i] = maxI (xs.take (i + 1))) ↔ (((xs.take i).filter fun y => decide (y < xs[i])).length : Int) = (i : Int) := by
  have hl : (xs.take i).length = i := by rw [List.length_take]; omega
  obtain ⟨h1, h2⟩ := maxI_spec (xs.take (i + 1)) (by rw [List.length_take]; omega)
  have e : (((xs.take i).filter fun y => decide (y < xs[i])).length : Int) = (i : Int) ↔ ((xs.take i).filter fun y => decide (y < xs[i])).length = (xs.take i).length := by rw [hl]; omega
  rw [e, List.length_filter_eq_length_iff]
  constructor
  · intro q y hy
    have a := h2 y ((take_succ_mem h).mpr (.inl hy))
    have b := nodup_take hn h hy
    simp; omega
  · intro q
    rcases (take_succ_mem h).mp h1 with m | m
    · have a := q _ m
      have b := h2 xs[i] ((take_succ_mem h).mpr (.inr rfl))
      simp at a; omega
    · exact m.symm
theorem low_iff {xs : List Int} (hn : xs.Nodup) {i : Nat} (h : i < xs.length) : (xs[i] = minI (xs.take (i + 1))) ↔ (((xs.take i).filter fun y => decide (y < xs[i])).length : Int) = 0 := by
  obtain ⟨h1, h2⟩ := minI_spec (xs.take (i + 1)) (by rw [List.length_take]; omega)
  have e : (((xs.take i).filter fun y => decide (y < xs[i])).length : Int) = 0 ↔ ((xs.take i).filter fun y => decide (y < xs[i])) = [] := by rw [← List.length_eq_zero_iff]; omega
  rw [e, List.filter_eq_nil_iff]
  constructor
  · intro q y hy
    have a := h2 y ((take_succ_mem h).mpr (.inl hy))
    simp; omega
  · intro q
    rcases (take_succ_mem h).mp h1 with m | m
    · have a := q _ m
      have b := h2 xs[i] ((take_succ_mem h).mpr (.inr rfl))
      simp at a; omega
    · exact m.symm
theorem highs_eq {xs : List Int} (hn : xs.Nodup) : highsIn (ranksIn xs) = highsRow xs := by
  unfold highsIn highsRow
  rw [filter_range (P := fun x i => decide (x = ((i : Nat) : Int))), filter_range (P := fun x i => decide (x = maxI (xs.take (i + 1)))), ranksIn_len]
  congr 1
  apply List.filter_congr
  intro i hi
  have h := List.mem_range.mp hi
  rw [ranksIn_get h, List.getD_eq_getElem?_getD, List.getElem?_eq_getElem h, Option.getD_some, decide_eq_decide, high_iff hn h]
theorem lows_eq {xs : List Int} (hn : xs.Nodup) : lowsIn (ranksIn xs) = lowsRow xs := by
  unfold lowsIn lowsRow
  rw [filter_range (P := fun x i => decide (x = 0)), filter_range (P := fun x i => decide (x = minI (xs.take (i + 1)))), ranksIn_len]
  congr 1
  apply List.filter_congr
  intro i hi
  have h := List.mem_range.mp hi
  rw [ranksIn_get h, List.getD_eq_getElem?_getD, List.getElem?_eq_getElem h, Option.getD_some, decide_eq_decide, low_iff hn h]
theorem map_zipIdx {β : Type} {P : Int → Nat → β} (ys : List Int) : (ys.zipIdx.map fun p => P p.1 p.2) = (List.range ys.length).map fun i => P (ys.getD i 0) i := by
  apply List.ext_getElem?
  intro i
  rw [List.getElem?_map, List.getElem?_zipIdx, List.getElem?_map]
  by_cases h : i < ys.length
  · rw [List.getElem?_range h, List.getElem?_eq_getElem h]
    simp [List.getD, h]
  · rw [List.getElem?_eq_none (by omega), List.getElem?_eq_none (by simpa using h)]
    rfl
theorem less_more {xs : List Int} (hn : xs.Nodup) {i : Nat} (h : i < xs.length) : ((xs.take i).filter fun y => decide (y < xs[i])).length + ((xs.take i).filter fun y => decide (xs[i] < y)).length = i := by
  have hl : (xs.take i).length = i := by rw [List.length_take]; omega
  have e : ((xs.take i).filter fun y => decide (xs[i] < y)) = ((xs.take i).filter fun y => !decide (y < xs[i])) := by
    apply List.filter_congr
    intro y hy
    have b := nodup_take hn h hy
    by_cases c : y < xs[i]
    · simp [c]; omega
    · simp [c]; omega
  rw [e, ← List.countP_eq_length_filter, ← List.countP_eq_length_filter]
  have := List.length_eq_countP_add_countP (fun y => decide (y < xs[i])) (l := xs.take i)
  simp only [hl] at this
  have e2 : List.countP (fun a => decide ¬(decide (a < xs[i]) = true)) (xs.take i) = List.countP (fun y => !decide (y < xs[i])) (xs.take i) := List.countP_congr fun a _ => by simp
  rw [e2] at this
  exact this.symm
theorem inv_eq {xs : List Int} (hn : xs.Nodup) : invIn (ranksIn xs) = invRow xs := by
  unfold invIn invRow
  rw [map_zipIdx (P := fun x i => ((i : Nat) : Int) - x), map_zipIdx (P := fun x i => (((xs.take i).filter fun y => decide (x < y)).length : Int)), ranksIn_len]
  congr 1
  apply List.map_congr_left
  intro i hi
  have h := List.mem_range.mp hi
  rw [ranksIn_get h, List.getD_eq_getElem?_getD, List.getElem?_eq_getElem h, Option.getD_some]
  have := less_more hn h
  omega
theorem rgN_nodup (lo : Int) (n : Nat) : (rgN lo n).Nodup := by
  unfold rgN
  refine List.pairwise_map.mpr (List.Pairwise.imp ?_ List.nodup_range)
  intro a b h h2
  exact h (by omega)
theorem rowBy_nodup {rs : List Int} (v : Valid rs) : (rowBy rs).Nodup := (rowBy_perm rs v).nodup_iff.mpr (rgN_nodup 0 rs.length)
end DL
/-! more rules of the hand layer: set(xs) of a list of ints -/
namespace HX
open PySem PySem.Spec PyProof.Rows L2
abbrev eS (w : World) : Obj := { cls := .type "set", dict := none, data := .set #[] 0 (.fresh 0 0 (!w.params.followText "set-order")) }
section
variable {P : Program} {w : World} {A : Around} {E : Value → Shared → Prop} {s : Shared}
theorem set_of_list {l : Addr} {us : Array Value} (ns : List Int) {Q : Value → Shared → Prop} (hh : A.handled = none) (hl : s.heap.IsList l us) (hit : IntsAre us.toList ns) (hb : ns.length + 1 < scanBound)
    (fin : ∀ (h' : Heap) (tk c : Nat), SetR w h' s.heap.objs.size (fun j => decide (j ∈ ns)) c → c ≤ ns.length → (∀ b o, s.heap.get? b = some o → h'.get? b = some o) → Q (.ref s.heap.objs.size) { s with heap := h', toks := tk }) :
    wpAny (model P w) A (call (.type "set") [.ref l]) Q E s := by
  have sz : us.size = ns.length := (Array.length_toList (xs := us)).symm.trans (IntsAre.length hit)
  obtain ⟨c, tl, hmro⟩ := F.called_set.mro
  have hmade := F.called_set.made
  have hsub := F.called_set.sub
  refine wpAny_call (codeAny_of_tree (show wpAny _ _ (callAny (.type "set") _) _ _ _ from wpAny_pure ⟨Code.quiet_builtin _ (by decide +kernel), codeAny_builtin F.entry_type_call ?_⟩))
  rw [Around.under_plain (weight_type_call_type "set" [.ref l] []) rfl]
  have n1 := F.called_set.notType
  have n2 := F.called_set.canCreate
  have n3 := F.typeCall_set_1 (.ref l)
  repeat (any_goals (first | assumption | wp_step))
  refine codeAny_mono (code_set_led1 (.ref l) (E := E) (Q₁ := fun ob t => ob = .ref s.heap.objs.size ∧ t = { s with heap := s.heap.push (eS w) }) ⟨rfl, rfl⟩) fun r t hr => ?_
  rcases r with e | fl
  · exact hr
  cases fl
  case ret q =>
    obtain ⟨rfl, rfl⟩ := hr
    have hS : (s.heap.push (eS w)).get? s.heap.objs.size = some (eS w) := Heap.get?_push_size _ rfl
    have hT : Shared.TypeIs { s with heap := s.heap.push (eS w) } (.ref s.heap.objs.size) "set" := ⟨_, hS, rfl⟩
    have i1 := F.called_set.init.lookup
    have i2 := F.called_set.init.bind (.ref s.heap.objs.size)
    repeat (any_goals (first | assumption | wp_step))
    refine codeAny_mono (codeAny_call_builtin (R := wants (fun r t => r = .none ∧ ∃ h' tk c, t = { s with heap := h', toks := tk } ∧ SetR w h' s.heap.objs.size (fun j => decide (j ∈ ns)) c ∧ c ≤ ns.length ∧ ∀ b o, s.heap.get? b = some o → h'.get? b = some o) E) F.called_set.init.plain F.entry_set_init (check_set_init_1 hT ?_)) fun r t hr => ?_
    · obtain ⟨⟨oc, od, oda, os⟩, hol, hcl, nl, hdl⟩ := hl
      simp only at hcl hdl
      subst hcl; subst hdl
      have hol2 : (s.heap.push (eS w)).get? l = some { cls := .type "list", dict := od, data := .seq us nl, slots := os } := Heap.get?_push_of_some _ hol
      have sl1 := F.sub_list_set
      have sl2 := F.sub_list_frozenset
      have sl3 : (Value.type "list" == Value.type "dict") = false := by decide
      have hl1 : (s.heap.push (eS w)).IsList l us := ⟨_, hol2, rfl, nl, rfl⟩
      unfold Builtin.«set.__init__» noKeywords Builtin.Frozenset.updateFrom
      generalize hPI : pyIter = PI
      wp_walk
      subst hPI
      refine wpAny_pyIter_list hl1 (wpAny_bind (wpAny_runValue ?_))
      have lt : l < s.heap.objs.size := Heap.lt_size hol
      have zz : (s.heap.push (eS w)).objs.size = s.heap.objs.size + 1 := Heap.size_push ..
      have ne1 : l ≠ (s.heap.push (eS w)).objs.size := by rw [zz]; exact Nat.ne_of_lt (Nat.lt_succ_of_lt lt)
      have ne2 : s.heap.objs.size ∉ [(s.heap.push (eS w)).objs.size, l] := by
        intro m
        rcases List.mem_cons.mp m with e | m
        · rw [zz] at e; exact absurd e (Nat.ne_of_lt (Nat.lt_succ_self _))
        · exact absurd (List.mem_singleton.mp m) (Nat.ne_of_gt lt)
      have val : ∀ (i : Nat) (v : Value), us[i]? = some v → ∃ k t, ns[i]? = some k ∧ v = .int k t := fun i v hv => by
        have hi : i < ns.length := by rw [← sz]; exact (Array.getElem?_eq_some_iff.mp hv).1
        obtain ⟨t, e⟩ := PyProof.Rows.IntsAre.int_at hit i v (by rw [Array.getElem?_toList]; exact hv)
        refine ⟨ns[i], t, List.getElem?_eq_getElem hi, e.trans ?_⟩
        rw [List.getD_eq_getElem?_getD, List.getElem?_eq_getElem hi]; rfl
      refine set_update_ints ((Walks.list (show A.in1.in1.in1.handled = none by simp [hh]) _ l ne1 us).toS) s.heap.objs.size ne2 ns sz hb val (us.size - 0) 0 _ (by omega) (Nat.zero_le _) ⟨⟨_, Heap.get?_push_size _ rfl, rfl, rfl⟩, hl1.push _⟩ ⟨0, Nat.le_refl 0, setR_new_at (Heap.get?_push_of_some _ hS)⟩ fun t c' hm hc' hS' => ?_
      obtain ⟨h', g2, d2, t2, o2⟩ := t
      obtain rfl : g2 = s.gens := hm.gens
      obtain rfl : d2 = s.drawn := hm.drawn
      obtain rfl : o2 = s.os := hm.os
      rw [sz] at hc'
      refine (show wpAny _ _ _ _ _ _ from wpAny_pure (show wpAny _ _ (ret Value.none) _ _ _ from wpAny_pure ⟨rfl, h', t2, c', rfl, hS', hc', fun b o e => ?_⟩))
      have b0 : b < s.heap.objs.size := Heap.lt_size e
      refine hm.heap b o (fun m => ?_) (Heap.get?_push_of_some _ (Heap.get?_push_of_some _ e))
      rcases List.mem_cons.mp m with q | m
      · exact absurd q (Nat.ne_of_lt b0)
      · have q := List.mem_singleton.mp m
        rw [zz] at q
        exact absurd q (Nat.ne_of_lt (Nat.lt_succ_of_lt b0))
    · cases r with
      | error e => exact hr
      | ok fl =>
        cases fl with
        | ret q =>
          obtain ⟨rfl, h', tk, c', rfl, hS', hc', hk'⟩ := hr
          repeat (any_goals (first | assumption | wp_step))
          exact fin _ _ _ hS' hc' hk'
        | _ => exact hr.elim
  all_goals exact hr.elim
end
section
variable {X : Cx}
/-- set(xs), xs a list of ints -/
def rSetI (K : PySem.W.Frag) (w : World) : List V → Hp → VK → Prop := fun xs H Q => ∃ (a : Addr) (ns : List Int), xs = [.ref a] ∧ SqL K H a (ns.map V.int) ∧ ns.length ≤ 1000 ∧ ∀ p n, H p = none → n ≤ ns.length → Q (.ref p) (upd H p (SetO w p (fun j => decide (j ∈ ns)) n))
theorem cr_setI (hc : X.calm = true) : CallR X (.type "set") (rSetI X.K X.w) := by
  intro pins s σ H xs us Q I r h
  obtain ⟨a, ns, rfl, hs, hl, q⟩ := h
  obtain ⟨its, rv, pl, hz⟩ := I.list hs
  rw [Vals.ref1 r]
  refine set_of_list ns (I.ok.hd hc) pl.isList (show IntsAre its.toArray.toList ns from ints_of_vals rv) (by unfold scanBound; omega) fun h' tk c R hcn k => ?_
  exact ⟨.ref _, _, I.laid (t' := tk) k (Nat.le_refl _) (setO_new R), rfl, q _ c (I.hok.fresh (Nat.le_refl _)) hcn⟩
end
end HX
/-! The data layer, A: sorted(set(..)), index, count, tuple(..), in at any depth. -/
namespace DL
open PySem L2
theorem u65 {k : Nat} {A : Around} (r : Room k A) : A.units + 65 < cLine := by have := r.un; omega
/-! ### sorted(set(e)) -/
def insS (x : Int) : List Int → List Int
  | [] => [x]
  | y :: r => if x < y then x :: y :: r else if x = y then y :: r else y :: insS x r
def sset : List Int → List Int
  | [] => []
  | x :: r => insS x (sset r)
theorem insS_mem (x : Int) : ∀ (r : List Int) (z : Int), z ∈ insS x r ↔ z = x ∨ z ∈ r
  | [], z => by simp [insS]
  | y :: r, z => by
    unfold insS
    split
    · simp
    · split
      · rename_i e; subst e; simp
      · rw [List.mem_cons, insS_mem x r z, List.mem_cons]
        constructor
        · rintro (h | h | h) <;> simp [h]
        · rintro (h | h | h) <;> simp [h]
theorem insS_sorted (x : Int) : ∀ r : List Int, r.Pairwise (· < ·) → (insS x r).Pairwise (· < ·)
  | [], _ => by unfold insS; exact List.pairwise_singleton _ _
  | y :: r, h => by
    have h' := List.pairwise_cons.mp h
    unfold insS
    split
    · rename_i hx
      refine List.pairwise_cons.mpr ⟨fun z hz => ?_, h⟩
      rcases List.mem_cons.mp hz with rfl | hz
      · exact hx
      · have := h'.1 z hz; omega
    · split
      · exact h
      · refine List.pairwise_cons.mpr ⟨fun z hz => ?_, insS_sorted x r h'.2⟩
        rcases (insS_mem x r z).mp hz with rfl | hz
        · omega
        · exact h'.1 z hz
theorem sset_mem : ∀ (r : List Int) (z : Int), z ∈ sset r ↔ z ∈ r
  | [], z => by simp [sset]
  | x :: r, z => by unfold sset; rw [insS_mem, sset_mem r, List.mem_cons]
theorem sset_sorted : ∀ r : List Int, (sset r).Pairwise (· < ·)
  | [] => .nil
  | x :: r => insS_sorted x _ (sset_sorted r)
theorem lt_uniq : ∀ {a b : List Int}, a.Pairwise (· < ·) → b.Pairwise (· < ·) → (∀ z, z ∈ a ↔ z ∈ b) → a = b
  | [], [], _, _, _ => rfl
  | [], y :: b, _, _, h => by have := (h y).mpr List.mem_cons_self; cases this
  | x :: a, [], _, _, h => by have := (h x).mp List.mem_cons_self; cases this
  | x :: a, y :: b, ha, hb, h => by
    have ha' := List.pairwise_cons.mp ha
    have hb' := List.pairwise_cons.mp hb
    have e : x = y := by
      rcases List.mem_cons.mp ((h x).mp List.mem_cons_self) with e | m
      · exact e
      · rcases List.mem_cons.mp ((h y).mpr List.mem_cons_self) with e | m2
        · exact e.symm
        · have := ha'.1 y m2; have := hb'.1 x m; omega
    subst e
    rw [lt_uniq ha'.2 hb'.2 fun z => ?_]
    constructor
    · intro m
      rcases List.mem_cons.mp ((h z).mp (List.mem_cons_of_mem _ m)) with e | m2
      · have := ha'.1 z m; omega
      · exact m2
    · intro m
      rcases List.mem_cons.mp ((h z).mpr (List.mem_cons_of_mem _ m)) with e | m2
      · have := hb'.1 z m; omega
      · exact m2
def oSSet : D → R (List D)
  | .lst ds => match intsOf ds with
    | some ns => if ns.length < 64 then .ok ((sset ns).map D.int) else .bad
    | none => .bad
  | _ => .bad
section
variable {X : Cx} {E : XK} {a b c e o : Expr} {es : List Expr} {f g h : Env → R D} {fs : Env → R (List D)} {pos : Pos}
theorem pn_sset {p p2 pos pos2 : Pos} (hc : X.calm = true) (hg : Gl X "sorted") (hm : X.mg "sorted" = none) (hg2 : Gl X "set") (hm2 : X.mg "set" = none) (ha : PX X E a f) (na : starEach [a] X.env = (false, eval a X.env) :: starEach [] X.env := by rfl)
    (nb : starEach [.Call (.Name "set" p2) [a] [] pos2] X.env = (false, eval (.Call (.Name "set" p2) [a] [] pos2) X.env) :: starEach [] X.env := by rfl) (pa : (backTo pos2 (starEach [] X.env)).any (·.1) = false := by rfl) (pb : (backTo pos (starEach [] X.env)).any (·.1) = false := by rfl) :
    PN X E (.Call (.Name "sorted" p) [.Call (.Name "set" p2) [a] [] pos2] [] pos) (eUnN oSSet f) :=
  pe_weak (pe_callB (cr_sortedSet hc) hg hm (by decide +kernel) (pa_cons (pe_callTy (HX.cr_setI hc) hg2 hm2 PyProof.Rows.boot_set (pa_cons ha pa_nil na) (by decide) (by decide) na pa) pa_nil nb) (by decide) (by decide) nb pb) fun σ H Q ⟨F, ρ, fh, en, fin⟩ => tX_stepN fh en fin fun v d F1 H1 s1 r1 fin1 => by
    cases d with
    | lst ds =>
      have fin1 : FinN X.K X.mg E F1 H1 Q (match intsOf ds with | some ns => if ns.length < 64 then .ok ((sset ns).map D.int) else .bad | none => .bad) := fin1
      cases hi : intsOf ds with
      | none => rw [hi] at fin1; exact fin1.elim
      | some ns =>
        rw [hi] at fin1
        by_cases hl : ns.length < 64
        · simp only [hl, if_true] at fin1
          cases r1 with
          | lst q rr =>
            rw [intsOf_eq hi] at rr
            refine ⟨_, ns, rfl, SqL.of (by rw [s1.fh _ _ q, rr.ints]), by omega, fun p n hp hn => ?_⟩
            refine ⟨p, _, n, rfl, upd_same, by omega, fun ms q2 hs hmem _ hq2 => ?_⟩
            have e : ms = sset ns := lt_uniq hs (sset_sorted ns) fun z => by rw [hmem z, sset_mem]; simp
            subst e
            have s2 := Stp.out (o := SetO X.w p (fun j => decide (j ∈ ns)) n) s1.fh hp
            exact fin1 q2 _ _ _ (s2.trans (Stp.out s2.fh hq2)) (s2.h.free hq2) (s2.fh.free hq2) upd_same (Rps.ofInts _)
        · simp only [hl, if_false] at fin1
          exact fin1.elim
    | _ => exact fin1.elim
/-! ### xs.index(x), xs.count(x) -/
def ixF (ds : List D) (x : D) : Option Nat := match ds with
  | [] => none
  | d :: r => if eqF d x then some 0 else (ixF r x).map (· + 1)
theorem ixF_spec : ∀ {ds : List D} {x : D} {j : Nat}, ixF ds x = some j → (∃ z, ds[j]? = some z ∧ eqF z x = true) ∧ ∀ (m : Nat) z, m < j → ds[m]? = some z → eqF z x = false
  | [], x, j, h => by cases h
  | d :: r, x, j, h => by
    unfold ixF at h
    by_cases hd : eqF d x = true
    · simp only [hd, if_true] at h
      cases h
      exact ⟨⟨d, rfl, hd⟩, fun m z hm => by omega⟩
    · simp only [hd] at h
      cases hr : ixF r x with
      | none => rw [hr] at h; cases h
      | some k =>
        rw [hr] at h
        cases h
        obtain ⟨⟨z, hz, he⟩, hb⟩ := ixF_spec hr
        refine ⟨⟨z, by simpa using hz, he⟩, fun m z' hm hz' => ?_⟩
        cases m with
        | zero => simp at hz'; subst hz'; simpa using hd
        | succ m => exact hb m z' (Nat.lt_of_succ_lt_succ hm) (by simpa using hz')
def asL : D → R (List D)
  | .lst ds => .ok ds
  | _ => .bad
/-- xs.m(e), by the items of xs -/
def eL1 (o : List D → D → R D) (f g : Env → R D) : Env → R D := fun ρ => (f ρ).bind fun x => (asL x).bind fun ds => (g ρ).bind fun y => o ds y
def oIndex (ds : List D) (y : D) : R D := if flatD y = true ∧ ds.all flatD = true then (match ixF ds y with | some j => .ok (.int (j : Nat)) | none => .bad) else .bad
def oCount (ds : List D) (y : D) : R D := match intsOf ds, y with
  | some ns, .int k => .ok (.int (ns.count k : Nat))
  | _, _ => .bad
section
variable {apos cpos : Pos}
theorem px_index (ho : PX X E o f) (he : PX X E e g) (hbase : attributeBase o "index" X.env (eval o X.env) = eval o X.env := by rfl)
    (hfew : ((backTo cpos (starEach [e] X.env)).all (fun x => !x.1) && (backToKw cpos (keywordEach [] X.env)).all (fun x => x.1.isSome) && decide ([e].length + ([] : List Keyword).length + (if ([] : List Keyword).isEmpty then 0 else 1) < 30)) = true := by rfl)
    (hline : (apos.endLine == cpos.line) = true := by rfl) (hs : starEach [e] X.env = (false, eval e X.env) :: starEach [] X.env := by rfl) (hplain : (backTo cpos (starEach [] X.env)).any (·.1) = false := by rfl) :
    PX X E (.Call (.Attribute o "index" apos) [e] [] cpos) (eL1 oIndex f g) :=
  pe_weak (pe_bm PySem.F.plainAttrs_list PySem.F.slot_list_index PySem.F.type_list_index mt_index ho (pa_cons he pa_nil hs) hbase hfew hline hs hplain) fun σ H Q ⟨F, ρ, fh, en, fin⟩ => tX_step fh en fin fun v d F1 H1 s1 r1 fin1 => by
    cases d with
    | lst ds =>
      cases r1 with
      | lst q rr =>
        have fin1 : Fin X.K X.mg E F1 H1 Q ((g ρ).bind fun y => oIndex ds y) := fin1
        refine ⟨.inl ⟨rfl, _, SqL.of (s1.fh _ _ q)⟩, tX_step s1.fh (en.mono s1.f) fin1 fun w d2 F2 H2 s2 r2 fin2 => ?_⟩
        have fin2 : Fin X.K X.mg E F2 H2 Q (if flatD d2 = true ∧ ds.all flatD = true then (match ixF ds d2 with | some j => .ok (.int (j : Nat)) | none => .bad) else .bad) := fin2
        by_cases hl : flatD d2 = true ∧ ds.all flatD = true
        · rw [if_pos hl] at fin2
          cases hj : ixF ds d2 with
          | none => rw [hj] at fin2; exact fin2.elim
          | some j =>
            rw [hj] at fin2
            have rr2 := rr.mono s2.f
            obtain ⟨⟨z, hz, he⟩, hb⟩ := ixF_spec hj
            obtain ⟨u, hu, ru⟩ := rr2.get hz
            have fl : ∀ (m : Nat) z, ds[m]? = some z → flatD z = true := fun m z hz => List.all_eq_true.mp hl.2 z (List.mem_of_getElem? hz)
            refine ⟨_, _, w, j, u, rfl, rfl, SqL.of (s2.fh _ _ (s2.f _ _ q)), r2.flat hl.1, rr2.flat hl.2, hu, ?_, fun m z' hm hz' => ?_, fin2 _ F2 H2 (Stp.refl s2.fh) (.int _)⟩
            · rw [ru.eqF r2 (fl j z hz) hl.1]; exact he
            · obtain ⟨dd, hd1, hd2⟩ := rr2.getV hz'
              rw [hd2.eqF r2 (fl m dd hd1) hl.1]; exact hb m dd hm hd1
        · rw [if_neg hl] at fin2; exact fin2.elim
    | _ => exact fin1.elim
theorem px_count (ho : PX X E o f) (he : PX X E e g) (hbase : attributeBase o "count" X.env (eval o X.env) = eval o X.env := by rfl)
    (hfew : ((backTo cpos (starEach [e] X.env)).all (fun x => !x.1) && (backToKw cpos (keywordEach [] X.env)).all (fun x => x.1.isSome) && decide ([e].length + ([] : List Keyword).length + (if ([] : List Keyword).isEmpty then 0 else 1) < 30)) = true := by rfl)
    (hline : (apos.endLine == cpos.line) = true := by rfl) (hs : starEach [e] X.env = (false, eval e X.env) :: starEach [] X.env := by rfl) (hplain : (backTo cpos (starEach [] X.env)).any (·.1) = false := by rfl) :
    PX X E (.Call (.Attribute o "count" apos) [e] [] cpos) (eL1 oCount f g) :=
  pe_weak (pe_bm PySem.F.plainAttrs_list PySem.F.slot_list_count PySem.F.type_list_count mt_lcount ho (pa_cons he pa_nil hs) hbase hfew hline hs hplain) fun σ H Q ⟨F, ρ, fh, en, fin⟩ => tX_step fh en fin fun v d F1 H1 s1 r1 fin1 => by
    cases d with
    | lst ds =>
      cases r1 with
      | lst q rr =>
        have fin1 : Fin X.K X.mg E F1 H1 Q ((g ρ).bind fun y => oCount ds y) := fin1
        refine ⟨.inl ⟨rfl, _, SqL.of (s1.fh _ _ q)⟩, tX_step s1.fh (en.mono s1.f) fin1 fun w d2 F2 H2 s2 r2 fin2 => ?_⟩
        unfold oCount at fin2
        cases hi : intsOf ds with
        | none => rw [hi] at fin2; exact fin2.elim
        | some ns =>
          rw [hi] at fin2
          cases d2 with
          | int k =>
            rw [intsOf_eq hi] at rr
            cases r2
            exact ⟨_, ns, k, rfl, rfl, SqL.of (by rw [s2.fh _ _ (s2.f _ _ q), rr.ints]), fin2 _ F2 H2 (Stp.refl s2.fh) (.int _)⟩
          | _ => exact fin2.elim
    | _ => exact fin1.elim
end
/-! ### tuple(xs) -/
def oTupOf : List D → R D
  | [.lst ds] => .ok (.tup ds)
  | [.tup ds] => .ok (.tup ds)
  | _ => .bad
theorem cd_tuple : CallD X E (fun xs H Q => ∃ p ys, xs = [.ref p] ∧ ((SqL X.K H p ys ∧ ∀ l, H l = none → Q (.ref l) (upd H l (.tup ys))) ∨ (SqT X.K H p ys ∧ Q (.ref p) H))) oTupOf := fun F H vs ds Q fh r fin => by
  match ds, r, fin with
  | [.lst ds], .cons (.lst h q) .nil, fin => exact ⟨_, _, rfl, .inl ⟨SqL.of (fh _ _ h), fun l hl => fin _ _ _ (Stp.new fh hl) (.tup upd_same (q.mono (same_upd (fh.free hl))))⟩⟩
  | [.tup ds], .cons (.tup h q) .nil, fin => exact ⟨_, _, rfl, .inr ⟨SqT.of (fh _ _ h), fin _ F H (Stp.refl fh) (.tup h q)⟩⟩
/-! ### x in xs, at any depth -/
def inDeep (x y : D) : R Bool := match y with
  | .lst ds => match toPy x, toPys ds with
    | some d, some es => if SeqAt.shaped d = true ∧ SeqAt.shaped (.list es) = true then .ok (es.any fun z => PyData.eqv z d) else .bad
    | _, _ => .bad
  | _ => .bad
def inX (x y : D) : R Bool := match inD x y with
  | .ok b => .ok b
  | _ => inDeep x y
def oInX (x y : D) : R D := (inX x y).bind fun b => .ok (.bl b)
def oNotInX (x y : D) : R D := (inX x y).bind fun b => .ok (.bl !b)
theorem inD_err {x y : D} {c : Str} (h : inD x y = .err c) : False := by
  unfold inD at h
  split at h
  · split at h <;> cases h
  · cases h
theorem inDeep_err {x y : D} {c : Str} (h : inDeep x y = .err c) : False := by
  unfold inDeep at h
  split at h
  · split at h
    · split at h <;> cases h
    · cases h
  · cases h
theorem od_inX : OpD X E (fun x y H Q => rIn X.K false x y H Q ∨ rInD X.K x y H Q) oInX := fun F H v w d e Q fh r1 r2 fin => by
  unfold oInX inX at fin
  cases hi : inD d e with
  | ok b =>
    rw [hi] at fin
    exact .inl (od_in F H v w d e Q fh r1 r2 (by unfold oIn; rw [hi]; exact fin))
  | err c => exact (inD_err hi).elim
  | bad =>
    rw [hi] at fin
    simp only at fin
    cases hd : inDeep d e with
    | bad => rw [hd] at fin; exact fin.elim
    | err c => exact (inDeep_err hd).elim
    | ok b =>
      rw [hd] at fin
      cases e with
      | lst ds =>
        unfold inDeep at hd
        simp only at hd
        cases h1 : toPy d with
        | none => rw [h1] at hd; cases hd
        | some p =>
          cases h2 : toPys ds with
          | none => rw [h1, h2] at hd; cases hd
          | some qs =>
            rw [h1, h2] at hd
            simp only at hd
            split at hd
            · rename_i hs
              cases hd
              exact .inr ⟨p, qs, (r1.mono fh).dp h1, (r2.mono fh).dp (by unfold toPy; rw [h2]; rfl), hs.1, hs.2, fin _ F H (Stp.refl fh) (.bl _)⟩
            · cases hd
      | _ => cases hd
theorem od_notInX : OpD X E (fun x y H Q => rIn X.K true x y H Q ∨ rNotInD X.K x y H Q) oNotInX := fun F H v w d e Q fh r1 r2 fin => by
  unfold oNotInX inX at fin
  cases hi : inD d e with
  | ok b =>
    rw [hi] at fin
    exact .inl (od_notin F H v w d e Q fh r1 r2 (by unfold oNotIn; rw [hi]; exact fin))
  | err c => exact (inD_err hi).elim
  | bad =>
    rw [hi] at fin
    simp only at fin
    cases hd : inDeep d e with
    | bad => rw [hd] at fin; exact fin.elim
    | err c => exact (inDeep_err hd).elim
    | ok b =>
      rw [hd] at fin
      cases e with
      | lst ds =>
        unfold inDeep at hd
        simp only at hd
        cases h1 : toPy d with
        | none => rw [h1] at hd; cases hd
        | some p =>
          cases h2 : toPys ds with
          | none => rw [h1, h2] at hd; cases hd
          | some qs =>
            rw [h1, h2] at hd
            simp only at hd
            split at hd
            · rename_i hs
              cases hd
              exact .inr ⟨p, qs, (r1.mono fh).dp h1, (r2.mono fh).dp (by unfold toPy; rw [h2]; rfl), hs.1, hs.2, fin _ F H (Stp.refl fh) (.bl _)⟩
            · cases hd
      | _ => cases hd
end
end DL
/-! The data layer, O: objects of own classes, read; made by their __init__; their methods. -/
namespace DL
open PySem L2
/-! ### what is known of a class -/
def FldAt (K : PySem.W.Frag) (mg : Str → Option Value) (c f : Str) : Prop := ∃ C, mg c = some (.ref C) ∧ Cls K C ∧ NoAttr K C f
def AtM (K : PySem.W.Frag) (mg : Str → Option Value) (c m qual : Str) (st : Stmt) : Prop := ∃ C f fd, mg c = some (.ref C) ∧ Cls K C ∧ Meth K C m f ∧ Fun K m qual st f fd
def HasMeth (P : Program) (w : World) (K : PySem.W.Frag) (mg : Str → Option Value) (base : Heap) (c m : Str) (ps : List Str) (k : Nat) (sp : Sp) : Prop :=
  ∃ C f fd, mg c = some (.ref C) ∧ Cls K C ∧ Meth K C m f ∧ FnOk P w K mg base (L2.CX P w) k f fd ps sp ∧ Binds K fd ps []
def AtI (K : PySem.W.Frag) (mg : Str → Option Value) (c qual : Str) (st : Stmt) : Prop := ∃ C f fd, mg c = some (.ref C) ∧ Cls K C ∧ Mk K C f ∧ Fun K "__init__" qual st f fd
def IsiAt (K : PySem.W.Frag) (mg : Str → Option Value) (c c' : Str) (b : Bool) : Prop := ∃ C C', mg c = some (.ref C) ∧ mg c' = some (.ref C') ∧ (∀ (H : Hp) (a dx : Addr) (fs : List (Str × V)), H a = some (.ins C dx fs) → TyOf K H (.ref a) (.ref C)) ∧ PySem.W.kitOne K (.ref C) (.ref C') = some b
section
variable {P : Program} {w : World} {K : PySem.W.Frag} {mg : Str → Option Value} {base : Heap}
theorem hm_x {c m qual : Str} {st : Stmt} {N ps : List Str} {k : Nat} {S : SEnv → R Out} (at_ : AtM K mg c m qual st) (sc : FnScope N ps (defScope st))
    (hbd : ∀ (kV doc pm : Value) (an : Option Addr) (cdv ct : Value) (us : List Value), us.length = ps.length → bindArgs (PySem.W.fnOf m qual (defArgs st) (defBody st) (defScope st) .none kV doc pm an cdv ct) ⟨us, []⟩ = pure (ps.zip us))
    (hb : ∀ (f : Addr) (cdv : Value) (A : Around) (outer : List PySem.Env) (s : Shared) (H : Hp) (E : XK), Room k (A.deeper (PyProof.Rows.envOfC qual (defScope st) s.heap.objs.size f cdv)) → PXSs (cxOf (L2.CX P w) P w K mg base N qual (defScope st) f cdv A outer s H E) E (defBody st) S) :
    HasMeth P w K mg base c m ps (k + 1) (spX K mg ps.length (runX N.length S)) := by
  obtain ⟨C, f, fd, hm, cl, me, Fu⟩ := at_
  exact ⟨C, f, fd, hm, cl, me, fn_x Fu sc (hb f), Fu.binds hbd⟩
end
/-! ### fields -/
def oFld (cs : List Str) (f : Str) : D → R D
  | .obj c ns ds => if c ∈ cs then (match (ns.zip ds).lookup f with | some d => .ok d | none => .bad) else .bad
  | _ => .bad
theorem fld_look {K : PySem.W.Frag} {mg : Str → Option Value} {F : Hp} {f : Str} : ∀ {fs : List (Str × V)} {ds : List D} {d : D}, Rps K mg F (fs.map (·.2)) ds → ((fs.map (·.1)).zip ds).lookup f = some d → ∃ v, fs.lookup f = some v ∧ Rp K mg F v d
  | [], [], d, _, h => by cases h
  | (g, x) :: fs, d0 :: ds, d, .cons r rs, h => by
    simp only [List.map_cons, List.zip_cons_cons, List.lookup_cons] at h ⊢
    by_cases e : (f == g) = true
    · simp only [e] at h ⊢
      cases h
      exact ⟨x, rfl, r⟩
    · have e : (f == g) = false := by simpa using e
      simp only [e] at h ⊢
      exact fld_look rs h
  | [], d0 :: ds, d, r, h => by cases r
section
variable {X : Cx} {E : XK} {a b c e o : Expr} {es : List Expr} {f g h : Env → R D} {fs : Env → R (List D)} {pos : Pos}
theorem px_fld {fl : Str} {cs : List Str} (hF : ∀ c ∈ cs, FldAt X.K X.mg c fl) (he : PX X E e f) (hb : attributeBase e fl X.env (eval e X.env) = eval e X.env := by rfl) : PX X E (.Attribute e fl pos) (eUn (oFld cs fl) f) :=
  pe_weak (pe_fld he hb) fun σ H Q ⟨F, ρ, fh, en, fin⟩ => tX_step fh en fin fun v d F1 H1 s1 r1 fin1 => by
    cases r1 with
    | @obj a C dx fs c ds hm hF1 rr =>
      have fin1 : Fin X.K X.mg E F1 H1 Q (if c ∈ cs then (match ((fs.map (·.1)).zip ds).lookup fl with | some d => .ok d | none => .bad) else .bad) := fin1
      by_cases hc : c ∈ cs
      · rw [if_pos hc] at fin1
        obtain ⟨C', hm', cl, na⟩ := hF c hc
        rw [hm] at hm'
        cases hm'
        cases hl : ((fs.map (·.1)).zip ds).lookup fl with
        | none => rw [hl] at fin1; exact fin1.elim
        | some d =>
          rw [hl] at fin1
          obtain ⟨u, hu, ru⟩ := fld_look rr hl
          exact ⟨a, C, dx, fs, u, rfl, s1.fh _ _ hF1, cl, na, hu, fin1 _ F1 H1 (Stp.refl s1.fh) ru⟩
      · rw [if_neg hc] at fin1; exact fin1.elim
    | _ => exact fin1.elim
/-! ### isinstance(x, C) -/
def oIsO (cs : List (Str × Bool)) : D → R D
  | .obj c _ _ => match cs.lookup c with | some b => .ok (.bl b) | none => .bad
  | _ => .bad
theorem look_mem {α : Type} {cs : List (Str × α)} {c : Str} {b : α} : cs.lookup c = some b → (c, b) ∈ cs := by
  induction cs with
  | nil => intro h; cases h
  | cons p cs ih =>
    intro h
    rw [List.lookup_cons] at h
    by_cases e : (c == p.1) = true
    · simp only [e] at h
      cases h
      have : c = p.1 := eq_of_beq e
      subst this
      exact List.mem_cons_self
    · have e : (c == p.1) = false := by simpa using e
      simp only [e] at h
      exact List.mem_cons_of_mem _ (ih h)
theorem px_isO {x : Str} {cs : List (Str × Bool)} {p p2 pos : Pos} (hg : Gl X "isinstance") (hm : X.mg "isinstance" = none) (hg2 : Gl X x) (hC : ∃ C, X.mg x = some (.ref C)) (hI : ∀ q ∈ cs, IsiAt X.K X.mg q.1 x q.2) (ha : PX X E e f) (hdb : (x == ("__debug__" : Str)) = false := by decide)
    (he : starEach [e, .Name x p2] X.env = (false, eval e X.env) :: starEach [.Name x p2] X.env := by rfl) (hpl : (backTo pos (starEach [.Name x p2] X.env)).any (·.1) = false := by rfl) (he2 : starEach [.Name x p2] X.env = (false, eval (.Name x p2) X.env) :: starEach [] X.env := by rfl) :
    PX X E (.Call (.Name "isinstance" p) [e, .Name x p2] [] pos) (eUn (oIsO cs) f) := by
  obtain ⟨C', hC'⟩ := hC
  refine pe_weak (pe_callB call_isi hg hm (by decide +kernel) (pa_cons ha (pa_cons (pe_glob (v := .ref C') hg2 hC' rfl hdb) pa_nil he2) he) (by decide) (by decide) he hpl) fun σ H Q ⟨F, ρ, fh, en, fin⟩ =>
    tX_step fh en fin fun v d F1 H1 s1 r1 fin1 => ?_
  cases r1 with
  | @obj a C dx fs c ds hm hF1 rr =>
    have fin1 : Fin X.K X.mg E F1 H1 Q (match cs.lookup c with | some b => .ok (.bl b) | none => .bad) := fin1
    cases hl : cs.lookup c with
    | none => rw [hl] at fin1; exact fin1.elim
    | some k =>
      rw [hl] at fin1
      obtain ⟨C1, C2, h1, h2, ty, kit⟩ := hI (c, k) (look_mem hl)
      simp only at h1 h2 ty kit
      rw [hm] at h1
      cases h1
      rw [hC'] at h2
      cases h2
      exact ⟨_, .ref C', .ref C, .ref C', k, rfl, .own C', .base (ty H1 a dx fs (s1.fh _ _ hF1)), kit, fin1 _ F1 H1 (Stp.refl s1.fh) (.bl _)⟩
  | _ => exact fin1.elim
/-! ### methods -/
def isObj (c m : Str) : D → R Unit
  | .obj c' ns _ => if c' = c ∧ m ∉ ns then .ok () else .bad
  | _ => .bad
def eMeth (c m : Str) (n : Nat) (q : List D → R D) (f : Env → R D) (fs : Env → R (List D)) : Env → R D := fun ρ => (f ρ).bind fun x => (isObj c m x).bind fun _ => (fs ρ).bind fun ds => callF n q (x :: ds)
theorem look_none {fs : List (Str × V)} {m : Str} (h : m ∉ fs.map (·.1)) : fs.lookup m = none := by
  induction fs with
  | nil => rfl
  | cons p fs ih =>
    rw [List.map_cons, List.mem_cons, not_or] at h
    rw [List.lookup_cons]
    have e : (m == p.1) = false := by simpa using h.1
    simp only [e]
    exact ih h.2
theorem px_meth {cn m : Str} {ps : List Str} {j k n : Nat} {q : List D → R D} {apos : Pos} {pl : Sem Bool} (G : HasMeth X.prog X.w X.K X.mg X.base cn m ps j (spX X.K X.mg n q)) (hr : Room k X.A) (hj : j ≤ k) (hx : Passes (L2.CX X.prog X.w) X E) (ho : PX X E o f) (ha : PXs X E (e :: es) fs)
    (hst : starEach (e :: es) X.env = (false, eval e X.env) :: starEach es X.env := by rfl) (hpl : (backTo pos (starEach es X.env)).any (·.1) = false := by rfl)
    (ht : eval (.Call (.Attribute o m apos) (e :: es) [] pos) X.env = (do
      let ov ← eval o X.env
      standAt apos.atName
      let (f, first) ← holding [ov] (getMethod ov m pl)
      callWith pos f first (backTo pos (starEach (e :: es) X.env)) (backToKw pos (keywordEach [] X.env))) := by rfl) :
    PX X E (.Call (.Attribute o m apos) (e :: es) [] pos) (eMeth cn m n q f fs) := by
  obtain ⟨C, fa, fd, hm, cl, me, Fn, bi⟩ := G
  refine pe_weak (pe_meth ho cl me Fn (hr.mono hj) bi .nil hx ha hst hpl ht) fun σ H Q ⟨F, ρ, fh, en, fin⟩ => tX_step fh en fin fun v d F1 H1 s1 r1 fin1 => ?_
  have r0 := r1
  cases r1 with
  | @obj a C' dx fl c ds hm' hF1 rr =>
    have fin1 : Fin X.K X.mg E F1 H1 Q ((isObj cn m (.obj c (fl.map (·.1)) ds)).bind fun _ => (fs ρ).bind fun es => callF n q (.obj c (fl.map (·.1)) ds :: es)) := fin1
    unfold isObj at fin1
    by_cases hc : c = cn ∧ m ∉ fl.map (·.1)
    · simp only [hc, not_false_eq_true, and_self, if_true, R.bind_ok] at fin1
      obtain ⟨rfl, hn⟩ := hc
      rw [hm] at hm'
      cases hm'
      refine ⟨a, dx, fl, rfl, s1.fh _ _ hF1, look_none hn, tXs_step s1.fh (en.mono s1.f) fin1 fun vs es F2 H2 s2 r2 fin2 => ?_⟩
      unfold callF at fin2
      split at fin2
      · rename_i hl
        rw [List.append_nil]
        exact ⟨F2, _, hl, s2.fh, .cons (r0.mono s2.f) r2, fin2⟩
      · exact fin2.elim
    · simp only [hc, if_false] at fin1; exact fin1.elim
  | _ => exact fin1.elim
theorem px_meth0 {cn m : Str} {ps : List Str} {j k n : Nat} {q : List D → R D} {apos : Pos} {pl : Sem Bool} (G : HasMeth X.prog X.w X.K X.mg X.base cn m ps j (spX X.K X.mg n q)) (hr : Room k X.A) (hj : j ≤ k) (hx : Passes (L2.CX X.prog X.w) X E) (ho : PX X E o f)
    (ht : eval (.Call (.Attribute o m apos) [] [] pos) X.env = (do
      let ov ← eval o X.env
      standAt apos.atName
      let (f, first) ← holding [ov] (getMethod ov m pl)
      callWith pos f first (backTo pos (starEach [] X.env)) (backToKw pos (keywordEach [] X.env))) := by rfl) :
    PX X E (.Call (.Attribute o m apos) [] [] pos) (eMeth cn m n q f aNil) := by
  obtain ⟨C, fa, fd, hm, cl, me, Fn, bi⟩ := G
  refine pe_weak (pe_meth0 ho cl me Fn (hr.mono hj) bi .nil hx ht) fun σ H Q ⟨F, ρ, fh, en, fin⟩ => tX_step fh en fin fun v d F1 H1 s1 r1 fin1 => ?_
  have r0 := r1
  cases r1 with
  | @obj a C' dx fl c ds hm' hF1 rr =>
    have fin1 : Fin X.K X.mg E F1 H1 Q ((isObj cn m (.obj c (fl.map (·.1)) ds)).bind fun _ => callF n q [.obj c (fl.map (·.1)) ds]) := fin1
    unfold isObj at fin1
    by_cases hc : c = cn ∧ m ∉ fl.map (·.1)
    · simp only [hc, not_false_eq_true, and_self, if_true, R.bind_ok] at fin1
      obtain ⟨rfl, hn⟩ := hc
      rw [hm] at hm'
      cases hm'
      refine ⟨a, dx, fl, rfl, s1.fh _ _ hF1, look_none hn, ?_⟩
      unfold callF at fin1
      split at fin1
      · rename_i hl
        exact ⟨F1, _, hl, s1.fh, .cons r0 .nil, fin1⟩
      · exact fin1.elim
    · simp only [hc, if_false] at fin1; exact fin1.elim
  | _ => exact fin1.elim
/-- one of two readings -/
def eAlt (f g : Env → R D) : Env → R D := fun ρ => match f ρ with
  | .bad => g ρ
  | r => r
theorem pe_or {e : Expr} {t t' : TE} (h : PE X e t) (h' : PE X e t') : PE X e (fun σ H Q => t σ H Q ∨ t' σ H Q) := ⟨fun pins s σ H Q I q => by
  rcases q with q | q
  · exact h.run pins s σ H Q I q
  · exact h'.run pins s σ H Q I q⟩
theorem px_alt (h1 : PX X E e f) (h2 : PX X E e g) : PX X E e (eAlt f g) := pe_weak (pe_or h1 h2) fun σ H Q ⟨F, ρ, fh, en, fin⟩ => by
  unfold eAlt at fin
  cases hf : f ρ with
  | bad => rw [hf] at fin; exact .inr ⟨F, ρ, fh, en, fin⟩
  | ok d => rw [hf] at fin; exact .inl ⟨F, ρ, fh, en, by rw [hf]; exact fin⟩
  | err c => rw [hf] at fin; exact .inl ⟨F, ρ, fh, en, by rw [hf]; exact fin⟩
end
/-! ### __init__: fields stored one behind the other; C(..) -/
structure StpX (p : Addr) (F H F2 H2 : Hp) : Prop where
  h : ∀ a o, a ≠ p → H a = some o → H2 a = some o
  f : Same F F2
  fh : Same F2 H2
  old : ∀ a, H a ≠ none → F2 a = F a
def putAll (fs0 : List (Str × V)) : List (Str × V) → List (Str × V)
  | [] => fs0
  | (f, v) :: r => putAll (putF f v fs0) r
structure InS (K : PySem.W.Frag) (mg : Str → Option Value) (F H : Hp) (ρ : Env) (σ : L2.St) (p C dx : Addr) (fs0 : List (Str × V)) : Prop where
  self : σ[0]? = some (some (.ref p))
  en : EnvR K mg F σ ρ
  fh : Same F H
  fp : F p = none
  hp : H p = some (.ins C dx fs0)
def FinI2 (K : PySem.W.Frag) (mg : Str → Option Value) (F H : Hp) (p C dx : Addr) (fs0 : List (Str × V)) (Q : Hp → Prop) : R (List (Str × D)) → Prop
  | .ok fds => ∀ F2 H2 fs, StpX p F H F2 H2 → H2 p = some (.ins C dx (putAll fs0 fs)) → fs.map (·.1) = fds.map (·.1) → Rps K mg F2 (fs.map (·.2)) (fds.map (·.2)) → Q H2
  | _ => False
def tIn (K : PySem.W.Frag) (mg : Str → Option Value) (n : Nat) (c : Str) (S : Env → R (List (Str × D))) : TS := fun Dn σ H => ∃ F ρ p C dx fs0, InS K mg F H ρ σ p C dx fs0 ∧ mg c = some (.ref C) ∧ fs0.length + n < 1000 ∧ FinI2 K mg F H p C dx fs0 (fun H2 => Dn.nx σ H2) (S ρ)
def iNil : Env → R (List (Str × D)) := fun _ => .ok []
def iCons (fl : Str) (f : Env → R D) (S : Env → R (List (Str × D))) : Env → R (List (Str × D)) := fun ρ => (noErr (f ρ)).bind fun d => (S ρ).bind fun r => .ok ((fl, d) :: r)
theorem putF_len (f : Str) (v : V) : ∀ fs : List (Str × V), (putF f v fs).length ≤ fs.length + 1
  | [] => Nat.le_refl _
  | (g, x) :: r => by
    unfold putF
    split
    · simp
    · have := putF_len f v r
      simp only [List.length_cons]
      omega
section
variable {X : Cx} {E : XK} {st : Stmt} {rest : List Stmt} {S : Env → R (List (Str × D))} {e : Expr} {f : Env → R D} {pos pos' : Pos} {cn : Str} {n : Nat}
theorem pin_nil : PSs X [] (tIn X.K X.mg 0 cn iNil) := pss_weak pss_nil fun Dn σ H ⟨F, ρ, p, C, dx, fs0, I, hm, _, fin⟩ => fin F H [] ⟨fun a o _ h => h, Same.refl F, I.fh, fun _ _ => rfl⟩ I.hp rfl .nil
theorem pin_cons {fl x : Str} {px : Pos} (hF : FldAt X.K X.mg cn fl) (hv : PX X E e f) (hr : PSs X rest (tIn X.K X.mg n cn S)) (hN : X.N[0]? = some x := by rfl) (hvi : Vis X.env.scope x := by first | exact Or.inl rfl | exact Or.inr (Or.inl rfl) | exact Or.inr (Or.inr rfl)) (hd : (x == ("__debug__" : Str)) = false := by decide)
    (hcd : (x == ("__classdict__" : Str)) = false := by decide) (hs : swapsWith e (some (.Attribute (.Name x px) fl pos')) pos.line X.env = pure false := by rfl) :
    PSs X (.Assign [.Attribute (.Name x px) fl pos'] e pos :: rest) (tIn X.K X.mg (n + 1) cn (iCons fl f S)) :=
  pss_weak (pss_cons (ps_fld (pe_var hN hvi hd hcd) hv hs) hr) fun Dn σ H ⟨F, ρ, p, C, dx, fs0, I, hm, hl, fin⟩ => by
    obtain ⟨C', hm', cl, na⟩ := hF
    rw [hm] at hm'
    cases hm'
    refine ⟨F, ρ, I.fh, I.en, ?_⟩
    unfold iCons at fin
    cases hf : f ρ with
    | bad => rw [hf] at fin; exact fin.elim
    | err c => rw [hf] at fin; exact fin.elim
    | ok d =>
      rw [hf] at fin
      simp only [noErr, R.bind_ok] at fin
      intro v F2 H2 s2 r2
      have hp2 : H2 p = some (.ins C dx fs0) := s2.h _ _ I.hp
      have fp2 : F2 p = none := (s2.old p (by rw [I.hp]; exact fun z => nomatch z)).trans I.fp
      refine ⟨_, I.self, p, C, dx, fs0, rfl, hp2, cl, na, by omega, ?_⟩
      refine ⟨F2, ρ, p, C, dx, putF fl v fs0, ⟨I.self, I.en.mono s2.f, same_upd2 s2.fh fp2, fp2, upd_same⟩, hm, by have := putF_len fl v fs0; omega, ?_⟩
      cases hS : S ρ with
      | bad => rw [hS] at fin; exact fin.elim
      | err c => rw [hS] at fin; exact fin.elim
      | ok fds =>
        rw [hS] at fin
        intro F3 H3 fs s3 hp3 hn3 r3
        refine fin F3 H3 ((fl, v) :: fs) ⟨fun a o ha h => s3.h a o ha (by rw [upd_ne ha]; exact s2.h _ _ h), s2.f.trans s3.f, s3.fh, fun a ha => ?_⟩ hp3 (by rw [List.map_cons, List.map_cons, hn3]) (.cons (r2.mono s3.f) r3)
        have h2 : F2 a = F a := s2.old a ha
        have h3 : F3 a = F2 a := s3.old a (by
          by_cases hap : a = p
          · subst hap; rw [upd_same]; exact fun z => nomatch z
          · rw [upd_ne hap]; exact same_ne s2.h ha)
        exact h3.trans h2
end
def spI (K : PySem.W.Frag) (mg : Str → Option Value) (cn : Str) (n : Nat) (o : List D → R (List (Str × D))) : Sp := fun vs H Q _ => ∃ F p C dx us ds, vs = .ref p :: us ∧ mg cn = some (.ref C) ∧ Same F H ∧ F p = none ∧ H p = some (.ins C dx []) ∧ Rps K mg F us ds ∧ ds.length + 1 = n ∧ FinI2 K mg F H p C dx [] (fun H2 => Q .non H2) (o ds)
def initI (n : Nat) (ds : List D) : Env := none :: ds.map some ++ List.replicate (n - 1 - ds.length) none
def runI (n : Nat) (S : Env → R (List (Str × D))) : List D → R (List (Str × D)) := fun ds => S (initI n ds)
def HasInit (P : Program) (w : World) (K : PySem.W.Frag) (mg : Str → Option Value) (base : Heap) (c : Str) (ps : List Str) (k : Nat) (sp : Sp) : Prop :=
  ∃ C f fd, mg c = some (.ref C) ∧ Mk K C f ∧ FnOk P w K mg base (L2.CX P w) k f fd ps sp ∧ Binds K fd ps []
section
variable {P : Program} {w : World} {K : PySem.W.Frag} {mg : Str → Option Value} {base : Heap}
theorem hi_x {c qual : Str} {st : Stmt} {N ps : List Str} {k m : Nat} {S : Env → R (List (Str × D))} (at_ : AtI K mg c qual st) (hm : m < 1000) (sc : FnScope N ps (defScope st))
    (hbd : ∀ (kV doc pm : Value) (an : Option Addr) (cdv ct : Value) (us : List Value), us.length = ps.length → bindArgs (PySem.W.fnOf "__init__" qual (defArgs st) (defBody st) (defScope st) .none kV doc pm an cdv ct) ⟨us, []⟩ = pure (ps.zip us))
    (hb : ∀ (f : Addr) (cdv : Value) (A : Around) (outer : List PySem.Env) (s : Shared) (H : Hp) (E : XK), Room k (A.deeper (PyProof.Rows.envOfC qual (defScope st) s.heap.objs.size f cdv)) → PSs (cxOf (L2.CX P w) P w K mg base N qual (defScope st) f cdv A outer s H E) (defBody st) (tIn K mg m c S)) :
    HasInit P w K mg base c ps (k + 1) (spI K mg c ps.length (runI N.length S)) := by
  obtain ⟨C, f, fd, hmg, cl, mk, Fu⟩ := at_
  refine ⟨C, f, fd, hmg, mk, Fu.okX sc (fun vs H Q E h => ?_) (fun cdv A outer s H vs Q E hr h => ⟨_, hb f cdv A outer s H E hr, ?_⟩), Fu.binds hbd⟩
  · obtain ⟨F, p, C, dx, us, ds, rfl, _, _, _, _, r, hl, _⟩ := h
    rw [List.length_cons, r.length]; exact hl
  · obtain ⟨F, p, C, dx, us, ds, rfl, hmg, fh, fp, hp, r, hl, fin⟩ := h
    have fin : FinI2 K mg F H p C dx [] (fun H2 => Q .non H2) (S (initI N.length ds)) := fin
    refine ⟨F, initI N.length ds, p, C, dx, [], ⟨by unfold L2.start; simp, ⟨?_, fun i d h => ?_⟩, fh, fp, hp⟩, hmg, by simpa using hm, fin⟩
    · unfold L2.start initI
      have := sc.par
      simp [r.length]
      omega
    · unfold initI at h
      unfold L2.start
      cases i with
      | zero => simp at h
      | succ i =>
        simp only [List.cons_append, List.getElem?_cons_succ, List.map_cons] at h ⊢
        by_cases hi : i < ds.length
        · rw [List.getElem?_append_left (by simpa using hi), List.getElem?_map, List.getElem?_eq_getElem hi] at h
          cases h
          obtain ⟨v, h1, h2⟩ := r.get (List.getElem?_eq_getElem hi)
          refine ⟨v, ?_, h2⟩
          rw [List.getElem?_append_left (by simpa [r.length] using hi), List.getElem?_map, h1]
          rfl
        · rw [List.getElem?_append_right (by simpa using hi)] at h
          rw [List.getElem?_replicate] at h
          split at h <;> cases h
end
def oMake (c : Str) (n : Nat) (o : List D → R (List (Str × D))) (ds : List D) : R D := if ds.length + 1 = n then (noErr (o ds)).bind fun fs => if (fs.map (·.1)).Nodup then .ok (.obj c (fs.map (·.1)) (fs.map (·.2))) else .bad else .bad
theorem putAll_nodup : ∀ {fs fs0 : List (Str × V)}, ((fs0 ++ fs).map (·.1)).Nodup → putAll fs0 fs = fs0 ++ fs
  | [], fs0, _ => by simp [putAll]
  | (f, v) :: r, fs0, h => by
    unfold putAll
    have e : ∀ {fs0 : List (Str × V)}, f ∉ fs0.map (·.1) → putF f v fs0 = fs0 ++ [(f, v)] := by
      intro fs0
      induction fs0 with
      | nil => intro _; rfl
      | cons q fs0 ih =>
        intro hn
        rw [List.map_cons, List.mem_cons, not_or] at hn
        obtain ⟨g, x⟩ := q
        unfold putF
        rw [if_neg (fun z => hn.1 z.symm), ih hn.2]
        rfl
    have hn : f ∉ fs0.map (·.1) := by
      rw [List.map_append, List.map_cons] at h
      have := (List.nodup_append.mp h).2.2
      exact fun hm => this f hm f List.mem_cons_self rfl
    rw [e hn, putAll_nodup (by simpa using h)]
    simp
section
variable {X : Cx} {E : XK} {e : Expr} {es : List Expr} {fs : Env → R (List D)} {p pos : Pos} {x : Str} {ps : List Str} {j k n : Nat} {o : List D → R (List (Str × D))}
theorem make_fin {C dx p : Addr} {F1 H1 : Hp} {Q : VK} {ds : List D} {us : List V} (hm : X.mg x = some (.ref C)) (fh : Same F1 H1) (r1 : Rps X.K X.mg F1 us ds) (fin1 : Fin X.K X.mg E F1 H1 Q (oMake x n o ds)) (hx : H1 p = none) (hdx : H1 dx = none) (ne : dx ≠ p) :
    spI X.K X.mg x n o (.ref p :: us) (upd (upd H1 dx (.own p)) p (.ins C dx [])) (fun v H2 => v = .non ∧ Q (.ref p) H2) E := by
  have sH : Same H1 (upd (upd H1 dx (.own p)) p (.ins C dx [])) := fun a o h => by rw [upd_ne (ne_of_none h hx), upd_ne (ne_of_none h hdx)]; exact h
  unfold oMake at fin1
  by_cases hl : ds.length + 1 = n
  · rw [if_pos hl] at fin1
    refine ⟨F1, p, C, dx, us, ds, rfl, hm, fh.trans sH, fh.free hx, upd_same, r1, hl, ?_⟩
    cases ho : o ds with
    | bad => rw [ho] at fin1; exact fin1.elim
    | err c => rw [ho] at fin1; exact fin1.elim
    | ok fds =>
      rw [ho] at fin1
      simp only [noErr, R.bind_ok] at fin1
      by_cases hn : (fds.map (·.1)).Nodup
      · rw [if_pos hn] at fin1
        intro F2 H2 fl s2 hp2 hn2 r2
        have e : putAll [] fl = fl := putAll_nodup (fs0 := []) (by rw [List.nil_append, hn2]; exact hn)
        rw [e] at hp2
        refine ⟨rfl, ?_⟩
        have fp2 : F2 p = none := (s2.old p (by rw [upd_same]; exact fun z => nomatch z)).trans (fh.free hx)
        have st : Stp F1 H1 F2 H2 := ⟨fun a o h => s2.h a o (ne_of_none h hx) (sH a o h), s2.f, s2.fh, fun a ha => s2.old a (same_ne sH ha)⟩
        refine fin1 (.ref p) _ H2 (st.freeze hx fp2 hp2) ?_
        rw [← hn2]
        exact .obj hm upd_same (r2.mono (same_upd fp2))
      · rw [if_neg hn] at fin1; exact fin1.elim
  · rw [if_neg hl] at fin1; exact fin1.elim
theorem px_make (G : HasInit X.prog X.w X.K X.mg X.base x ps j (spI X.K X.mg x n o)) (hr : Room k X.A) (hj : j + 1 ≤ k) (hg : Gl X x) (hx : Passes (L2.CX X.prog X.w) X E) (ha : PXs X E (e :: es) fs) (hdb : (x == ("__debug__" : Str)) = false := by decide)
    (he : starEach (e :: es) X.env = (false, eval e X.env) :: starEach es X.env := by rfl) (hpl : (backTo pos (starEach es X.env)).any (·.1) = false := by rfl) : PX X E (.Call (.Name x p) (e :: es) [] pos) (eCall (oMake x n o) fs) := by
  obtain ⟨C, f, fd, hm, mk, Fn, bi⟩ := G
  refine pe_weak (pe_make mk Fn (hr.mono hj) hg hm bi .nil hx ha hdb he hpl) fun σ H Q ⟨F, ρ, fh, en, fin⟩ => tXs_step fh en fin fun us ds F1 H1 s1 r1 fin1 => ?_
  intro q dx hq hdx ne
  rw [List.append_nil]
  exact make_fin hm s1.fh r1 fin1 hq hdx ne
theorem px_make0 (G : HasInit X.prog X.w X.K X.mg X.base x ps j (spI X.K X.mg x n o)) (hr : Room k X.A) (hj : j + 1 ≤ k) (hg : Gl X x) (hx : Passes (L2.CX X.prog X.w) X E) (hdb : (x == ("__debug__" : Str)) = false := by decide) : PX X E (.Call (.Name x p) [] [] pos) (eCall (oMake x n o) aNil) := by
  obtain ⟨C, f, fd, hm, mk, Fn, bi⟩ := G
  refine pe_weak (pe_make0 mk Fn (hr.mono hj) hg hm bi .nil hx hdb) fun σ H Q ⟨F, ρ, fh, en, fin⟩ => ?_
  intro q dx hq hdx ne
  exact make_fin (ds := []) (us := []) hm fh .nil fin hq hdx ne
end
end DL
/-! The data layer, B: slices with a step, stores into owned lists, ranges downwards, while. -/
namespace DL
open PySem L2
/-! ### xs[a:b:c] -/
def pickL {α : Type} (xs : List α) (lo hi st : Option Int) : List α := (sliceRange (sliceBounds lo hi st xs.length).1 (sliceBounds lo hi st xs.length).2.1 (sliceBounds lo hi st xs.length).2.2).filterMap (xs[·]?)
def tSlS (K : PySem.W.Frag) (te : TE) (tl th ts : TO) : TE := fun σ H Q => te σ H fun x H1 => tl σ H1 fun l H2 => th σ H2 fun u H3 => ts σ H3 fun o H4 => o ≠ some 0 ∧ ∃ a xs, x = .ref a ∧ SqL K H4 a xs ∧ (pickL xs l u o).length ≤ sizeLine ∧ ∀ p, H4 p = none → Q (.ref p) (upd H4 p (.lst (pickL xs l u o)))
theorem vals_pick {xs : List V} {us : List Value} (r : Vals xs us) : ∀ ids : List Nat, Vals (ids.filterMap (xs[·]?)) (ids.filterMap (us[·]?))
  | [] => .nil
  | i :: ids => by
    rw [List.filterMap_cons, List.filterMap_cons]
    cases hx : xs[i]? with
    | none =>
      have : us[i]? = none := by rw [List.getElem?_eq_none_iff] at hx ⊢; rw [← r.length]; exact hx
      rw [this]
      exact vals_pick r ids
    | some x =>
      obtain ⟨u, hu, ru⟩ := r.get hx
      rw [hu]
      exact .cons ru (vals_pick r ids)
theorem pe_sliceS {X : Cx} {e : Expr} {lo hi : Option Expr} {st : Expr} {te : TE} {tl th ts : TO} {p3 pos : Pos} (he : PE X e te) (hl : PO X lo tl) (hu : PO X hi th) (hs : PO X (some st) ts) : PE X (.Subscript e (.Slice lo hi (some st) p3) pos) (tSlS X.K te tl th ts) := by
  refine ⟨fun pins s σ H Q I h => ?_⟩
  refine PyProof.Rows.Subscript_ (thn (he.run pins s σ H _ I h) fun v s1 ⟨x, H1, I1, r1, q1⟩ => ?_)
  refine wpAny_Slice (thn (hl.run pins s1 σ H1 _ I1 q1) fun vl s2 ⟨l, H2, I2, pl, q2⟩ => thn (hu.run pins s2 σ H2 _ I2 q2) fun vu s3 ⟨u, H3, I3, pu, q3⟩ => thn (hs.run pins s3 σ H3 _ I3 q3) fun vs s4 ⟨o, H4, I4, po, q4⟩ => ?_)
  obtain ⟨h0, a, xs, rfl, hx, hsz, q⟩ := q4
  cases r1
  have I5 : Inv X pins σ H4 { s4 with heap := s4.heap.push { cls := .type "slice", data := .fields #[vl, vu, vs] } } := I4.kept (t' := s4.toks) fun b ob q => Heap.get?_push_of_some _ q
  obtain ⟨its, r, ht, hz⟩ := I5.list hx
  have hlen := r.length
  refine PyProof.Rows.tail_any (ops := [.ref a, .ref s4.heap.objs.size]) ht.isList.typeIs (PySem.slot_list_getitem.lookup) ?_ (by with_unfolding_all rfl)
  refine wpAny_getItem_list_slice ht.isList (Heap.IsSliceOf.new _ vl vu vs) pl pu po h0 ?_ (by rw [List.size_toArray]; omega)
  refine ⟨.ref _, _, I5.laid (t' := s4.toks) (o := .lst (pickL xs l u o)) (fun b ob q => Heap.get?_push_of_some _ q) (Nat.le_refl _) ?_, rfl, q _ (I5.hok.fresh (Nat.le_refl _))⟩
  refine ⟨hsz, (sliceRange (sliceBounds l u o its.length).1 (sliceBounds l u o its.length).2.1 (sliceBounds l u o its.length).2.2).filterMap (its[·]?), 0, ?_, ?_⟩
  · unfold pickL
    rw [hlen]
    exact vals_pick r _
  · refine (Heap.get?_push_size _ rfl).trans ?_
    unfold slicePick
    simp

/-! meanings: a slice with a step -/
def slSD (x : D) (lo hi st : Option Int) : R (List D) := match x with
  | .lst ds => if st ≠ some 0 ∧ (pickL ds lo hi st).length ≤ 100000 then .ok (pickL ds lo hi st) else .bad
  | _ => .bad
def eSlS (f : Env → R D) (lo hi st : Env → R (Option Int)) : Env → R (List D) := fun ρ => (f ρ).bind fun x => (lo ρ).bind fun l => (hi ρ).bind fun u => (st ρ).bind fun o => slSD x l u o
theorem Rps.pick {K : PySem.W.Frag} {mg : Str → Option Value} {F : Hp} {vs : List V} {ds : List D} (r : Rps K mg F vs ds) : ∀ ids : List Nat, Rps K mg F (ids.filterMap (vs[·]?)) (ids.filterMap (ds[·]?))
  | [] => .nil
  | i :: ids => by
    rw [List.filterMap_cons, List.filterMap_cons]
    cases hx : ds[i]? with
    | none =>
      have : vs[i]? = none := by rw [List.getElem?_eq_none_iff] at hx ⊢; rw [r.length]; exact hx
      rw [this]
      exact Rps.pick r ids
    | some x =>
      obtain ⟨u, hu, ru⟩ := r.get hx
      rw [hu]
      exact .cons ru (Rps.pick r ids)
section
variable {X : Cx} {E : XK} {a b c e o : Expr} {es : List Expr} {f g h : Env → R D} {fs : Env → R (List D)} {pos : Pos}
theorem pn_slS {lo hi : Option Expr} {st : Expr} {l u k : Env → R (Option Int)} {p3 : Pos} (he : PX X E e f) (hl : PXO X E lo l) (hu : PXO X E hi u) (hs : PXO X E (some st) k) : PN X E (.Subscript e (.Slice lo hi (some st) p3) pos) (eSlS f l u k) :=
  pe_weak (pe_sliceS he hl hu hs) fun σ H Q ⟨F, ρ, fh, en, fin⟩ =>
    tX_stepN fh en fin fun v d F1 H1 s1 r1 fin1 => tXO_stepN s1.fh (en.mono s1.f) fin1 fun lo F2 H2 s2 fin2 => tXO_stepN s2.fh (en.mono (s1.f.trans s2.f)) fin2 fun hi F3 H3 s3 fin3 => tXO_stepN s3.fh (en.mono ((s1.f.trans s2.f).trans s3.f)) fin3 fun st F4 H4 s4 fin4 => by
      have r4 := r1.mono ((s2.f.trans s3.f).trans s4.f)
      cases d with
      | lst ds =>
        have fin4 : FinN X.K X.mg E F4 H4 Q (if st ≠ some 0 ∧ (pickL ds lo hi st).length ≤ 100000 then .ok (pickL ds lo hi st) else .bad) := fin4
        by_cases hq : st ≠ some 0 ∧ (pickL ds lo hi st).length ≤ 100000
        · rw [if_pos hq] at fin4
          cases r4 with
          | @lst a xs ds q rr =>
            have rp : Rps X.K X.mg F4 (pickL xs lo hi st) (pickL ds lo hi st) := by
              unfold pickL
              rw [rr.length]
              exact rr.pick _
            exact ⟨hq.1, _, xs, rfl, SqL.of (s4.fh _ _ q), by rw [rp.length]; exact sz hq.2, fun p hp => fin4 _ _ _ _ (Stp.out s4.fh hp) hp (s4.fh.free hp) upd_same rp⟩
        · rw [if_neg hq] at fin4; exact fin4.elim
      | _ => exact fin4.elim
end
/-! ### stores into an owned list -/
def stoAt (ds : List D) (k : D) (d : D) : R (List D) := match k with
  | .int i => match ixN ds.length i with
    | some j => if flatD d = true then .ok (ds.set j d) else .bad
    | none => .bad
  | _ => .bad
def owAt (ρ : SEnv) (i : Nat) : R (List D) := match ρ[i]? with
  | some (.ow ds) => .ok ds
  | _ => .bad
/-- xs[k] = e -/
def sSto (i : Nat) (fk f : Env → R D) : SEnv → R Out := fun ρ => (f (frE ρ)).bind fun d => (owAt ρ i).bind fun ds => (fk (frE ρ)).bind fun k => (stoAt ds k d).bind fun es => .ok (.nx (ρ.set i (.ow es)))
theorem owAt_ok {ρ : SEnv} {i : Nat} {ds : List D} (h : owAt ρ i = .ok ds) : ρ[i]? = some (.ow ds) := by
  unfold owAt at h
  split at h
  · cases h; assumption
  · cases h
theorem Rps.setAt {K : PySem.W.Frag} {mg : Str → Option Value} {F : Hp} {v : V} {d : D} (rv : Rp K mg F v d) : ∀ {vs : List V} {ds : List D} (j : Nat), Rps K mg F vs ds → Rps K mg F (vs.set j v) (ds.set j d)
  | _, _, _, .nil => .nil
  | _, _, 0, .cons _ r => .cons rv r
  | _, _, j + 1, .cons h r => .cons h (Rps.setAt rv j r)
theorem Rel.noN {K : PySem.W.Frag} {mg : Str → Option Value} {He Fe F H : Hp} {ρ : SEnv} {σ : L2.St} (r : Rel K mg He Fe F ρ σ H) {H2 : Hp} (e : Same H H2) : Rel K mg He Fe F ρ σ H2 := r.grow e
section
variable {X : Cx} {E : XK} {e k : Expr} {f fk : Env → R D} {pos : Pos}
theorem pxs_sto (i : Nat) {x : Str} {px spos : Pos} (he : PX X E e f) (hk : PX X E k fk) (hN : X.N[i]? = some x := by rfl) (hv : Vis X.env.scope x := by first | exact Or.inl rfl | exact Or.inr (Or.inl rfl) | exact Or.inr (Or.inr rfl)) (hd : (x == ("__debug__" : Str)) = false := by decide) (hcd : (x == ("__classdict__" : Str)) = false := by decide)
    (ha : ∀ v, assign (.Subscript (.Name x px) k spos) X.env v = (do
      let ov ← holding [v] (eval (.Name x px) X.env)
      let iv ← holding [v, ov] (eval k X.env)
      standAt spos
      holding [v, ov, iv] (setItem ov iv v)
      release [v, ov, iv] []) := by intro _; rfl)
    (hs : swapsWithSole [.Subscript (.Name x px) k spos] e pos.line X.env = pure false := by rfl) (hw : swappedStores [.Subscript (.Name x px) k spos] e X.env = pure none := by rfl) (h1 : (assignEach [.Subscript (.Name x px) k spos] X.env).map (·.2) = [assign (.Subscript (.Name x px) k spos) X.env] := by rfl) :
    PXS X E (.Assign [.Subscript (.Name x px) k spos] e pos) (sSto i fk f) :=
  ps_weak (ps_asg he (pg_sub (pe_var hN hv hd hcd) hk set_list ha) hs hw h1) fun Dn σ H ⟨He, Fe, F, ρ, r, fin⟩ => by
    refine r.evalFr fin fun v d F2 H2 e2 rp fin2 => ?_
    cases ho : owAt ρ i with
    | bad => rw [ho] at fin2; exact fin2.elim
    | err c => unfold owAt at ho; split at ho <;> cases ho
    | ok ds =>
      rw [ho] at fin2
      simp only [R.bind_ok] at fin2
      have hi := owAt_ok ho
      obtain ⟨p, vs, h1, h2, h3, h4, h5⟩ := r.own i ds hi
      refine ⟨_, h1, ?_⟩
      have r2 := r.grow e2
      refine r2.evalFr fin2 fun w d3 F3 H3 e3 rp3 fin3 => ?_
      cases d3 with
      | int z =>
        have fin3 : FinS X.K X.mg E He Fe Dn ((match ixN ds.length z with | some j => if flatD d = true then R.ok (ds.set j d) else R.bad | none => R.bad).bind fun es => .ok (.nx (ρ.set i (.ow es)))) := fin3
        cases hj : ixN ds.length z with
        | none => rw [hj] at fin3; exact fin3.elim
        | some j =>
          rw [hj] at fin3
          simp only at fin3
          by_cases hf : flatD d = true
          · rw [if_pos hf] at fin3
            cases rp3
            refine ⟨p, vs, z, j, rfl, rfl, e3 _ _ (e2 _ _ h4), by rw [h5.length]; exact hj, ?_⟩
            exact fin3 F σ _ ((r2.grow e3).write hi h1 (Rps.setAt (rp.flatAny hf) j h5))
          · rw [if_neg hf] at fin3; exact fin3.elim
      | _ => exact fin3.elim
end

/-! ### xs[k], xs[l] = e, d -/
def sSwap (i : Nat) (k1 k2 : Env → R D) (fs : Env → R (List D)) : SEnv → R Out := fun ρ => (fs (frE ρ)).bind fun vs => match vs with
  | [a, b] => (owAt ρ i).bind fun ds => (k1 (frE ρ)).bind fun z => (stoAt ds z a).bind fun es => (k2 (frE (ρ.set i (.ow es)))).bind fun z2 => (stoAt es z2 b).bind fun es2 => .ok (.nx ((ρ.set i (.ow es)).set i (.ow es2)))
  | _ => .bad
theorem stoAt_ok {ds es : List D} {k d : D} (h : stoAt ds k d = .ok es) : ∃ z j, k = .int z ∧ ixN ds.length z = some j ∧ flatD d = true ∧ es = ds.set j d := by
  unfold stoAt at h
  cases k with
  | int z =>
    simp only at h
    cases hj : ixN ds.length z with
    | none => rw [hj] at h; cases h
    | some j =>
      rw [hj] at h
      simp only at h
      split at h
      · cases h; exact ⟨z, j, rfl, hj, by assumption, rfl⟩
      · cases h
  | _ => cases h
theorem stoAt_err {ds : List D} {k d : D} {c : Str} (h : stoAt ds k d = .err c) : False := by
  unfold stoAt at h
  split at h
  · split at h
    · split at h <;> cases h
    · cases h
  · cases h
section
variable {X : Cx} {E : XK} {k1 k2 : Expr} {es : List Expr} {f1 f2 : Env → R D} {fs : Env → R (List D)} {pos : Pos}
theorem pxs_swap (i : Nat) {x : Str} {px py s1 s2 pt pt2 : Pos} {kt kt2 : Nat} (hc : X.calm = true) (ha : PXs X E es fs) (hk1 : PX X E k1 f1) (hk2 : PX X E k2 f2) (hN : X.N[i]? = some x := by rfl) (hv : Vis X.env.scope x := by first | exact Or.inl rfl | exact Or.inr (Or.inl rfl) | exact Or.inr (Or.inr rfl)) (hd : (x == ("__debug__" : Str)) = false := by decide) (hcd : (x == ("__classdict__" : Str)) = false := by decide)
    (a1 : ∀ v, assign (.Subscript (.Name x px) k1 s1) X.env v = (do
      let ov ← holding [v] (eval (.Name x px) X.env)
      let iv ← holding [v, ov] (eval k1 X.env)
      standAt s1
      holding [v, ov, iv] (setItem ov iv v)
      release [v, ov, iv] []) := by intro _; rfl)
    (a2 : ∀ v, assign (.Subscript (.Name x py) k2 s2) X.env v = (do
      let ov ← holding [v] (eval (.Name x py) X.env)
      let iv ← holding [v, ov] (eval k2 X.env)
      standAt s2
      holding [v, ov, iv] (setItem ov iv v)
      release [v, ov, iv] []) := by intro _; rfl)
    (c1 : (assignEach [.Subscript (.Name x px) k1 s1, .Subscript (.Name x py) k2 s2] X.env).map (·.2) = assign (.Subscript (.Name x px) k1 s1) X.env :: (assignEach [.Subscript (.Name x py) k2 s2] X.env).map (·.2) := by rfl)
    (c2 : (assignEach [.Subscript (.Name x py) k2 s2] X.env).map (·.2) = assign (.Subscript (.Name x py) k2 s2) X.env :: (assignEach [] X.env).map (·.2) := by rfl)
    (hn : (assignEach [.Subscript (.Name x px) k1 s1, .Subscript (.Name x py) k2 s2] X.env).length = 2 := by rfl) (hst : (assignEach [.Subscript (.Name x px) k1 s1, .Subscript (.Name x py) k2 s2] X.env).findIdx? (·.1) = none := by rfl)
    (hs : swapsWithSole [.Tuple [.Subscript (.Name x px) k1 s1, .Subscript (.Name x py) k2 s2] kt pt] (.Tuple es kt2 pt2) pos.line X.env = pure false := by rfl) (hw : swappedStores [.Tuple [.Subscript (.Name x px) k1 s1, .Subscript (.Name x py) k2 s2] kt pt] (.Tuple es kt2 pt2) X.env = pure none := by rfl)
    (h1 : (assignEach [.Tuple [.Subscript (.Name x px) k1 s1, .Subscript (.Name x py) k2 s2] kt pt] X.env).map (·.2) = [assign (.Tuple [.Subscript (.Name x px) k1 s1, .Subscript (.Name x py) k2 s2] kt pt) X.env] := by rfl) :
    PXS X E (.Assign [.Tuple [.Subscript (.Name x px) k1 s1, .Subscript (.Name x py) k2 s2] kt pt] (.Tuple es kt2 pt2) pos) (sSwap i f1 f2 fs) :=
  ps_weak (ps_asg (pe_tup ha) (pg_tup hc (pgs_cons (pg_sub (pe_var hN hv hd hcd) hk1 set_list a1) (pgs_cons (pg_sub (pe_var hN hv hd hcd) hk2 set_list a2) pgs_nil c2) c1) hn hst) hs hw h1) fun Dn σ H ⟨He, Fe, F, ρ, r, fin⟩ => by
    refine ⟨H, frE ρ, Same.refl H, r.envFr, ?_⟩
    unfold sSwap at fin
    cases hf : fs (frE ρ) with
    | bad => rw [hf] at fin; exact fin
    | err c => rw [hf] at fin; exact fun C H2 e m => fin C H2 (r.st.h.trans e) m
    | ok ds0 =>
      rw [hf] at fin
      simp only [R.bind_ok] at fin
      intro vs F2 H2 s2 r2
      split at fin
      case h_2 => exact fin.elim
      rename_i da db
      cases r2 with
      | cons ra r2 => cases r2 with
        | cons rb r2 =>
          cases r2
          rename_i va vb
          refine ⟨sz (show 2 ≤ 100000 by decide), fun p hp => ⟨p, _, rfl, SqT.of upd_same, rfl, va, [vb], rfl, ?_⟩⟩
          have g1 : Same H (upd H2 p (.tup [va, vb])) := s2.h.trans (same_upd hp)
          cases ho : owAt ρ i with
          | bad => rw [ho] at fin; exact fin.elim
          | err c => unfold owAt at ho; split at ho <;> cases ho
          | ok ds =>
            rw [ho] at fin
            simp only [R.bind_ok] at fin
            have hi := owAt_ok ho
            obtain ⟨q, ws, w1, w2, w3, w4, w5⟩ := r.own i ds hi
            refine ⟨_, w1, ?_⟩
            have rr := r.grow g1
            refine rr.evalFr fin fun w d3 F3 H3 e3 rp3 fin3 => ?_
            cases hst : stoAt ds d3 da with
            | bad => rw [hst] at fin3; exact fin3.elim
            | err c => exact (stoAt_err hst).elim
            | ok es1 =>
              rw [hst] at fin3
              simp only [R.bind_ok] at fin3
              obtain ⟨z, j, rfl, hj, hfl, rfl⟩ := stoAt_ok hst
              cases rp3
              refine ⟨q, ws, z, j, rfl, rfl, e3 _ _ (g1 _ _ w4), by rw [w5.length]; exact hj, vb, [], rfl, ?_⟩
              have rw1 := (rr.grow e3).write hi w1 (Rps.setAt (ra.flatAny hfl) j w5)
              have hi2 : (ρ.set i (.ow (ds.set j da)))[i]? = some (.ow (ds.set j da)) := List.getElem?_set_self (List.getElem?_eq_some_iff.mp hi).1
              obtain ⟨q', ws', u1, u2, u3, u4, u5⟩ := rw1.own i _ hi2
              rw [w1] at u1
              cases u1
              refine ⟨_, w1, ?_⟩
              refine rw1.evalFr fin3 fun w4 d4 F4 H4 e4 rp4 fin4 => ?_
              cases hst2 : stoAt (ds.set j da) d4 db with
              | bad => rw [hst2] at fin4; exact fin4.elim
              | err c => exact (stoAt_err hst2).elim
              | ok es2 =>
                rw [hst2] at fin4
                obtain ⟨z2, j2, rfl, hj2, hfl2, rfl⟩ := stoAt_ok hst2
                cases rp4
                refine ⟨q, ws', z2, j2, rfl, rfl, e4 _ _ u4, by rw [u5.length]; exact hj2, rfl, ?_⟩
                exact fin4 F σ _ ((rw1.grow e4).write hi2 w1 (Rps.setAt (rb.flatAny hfl2) j2 u5))
end
/-! ### xs.reverse(), xs.pop() as a statement -/
def sRev (i : Nat) : SEnv → R Out := fun ρ => (owAt ρ i).bind fun ds => .ok (.nx (ρ.set i (.ow ds.reverse)))
section
variable {X : Cx} {E : XK}
theorem pxs_rev (i : Nat) {x : Str} {px apos cpos pos : Pos} (hN : X.N[i]? = some x := by rfl) (hv : Vis X.env.scope x := by first | exact Or.inl rfl | exact Or.inr (Or.inl rfl) | exact Or.inr (Or.inr rfl)) (hd : (x == ("__debug__" : Str)) = false := by decide) (hcd : (x == ("__classdict__" : Str)) = false := by decide)
    (hbase : attributeBase (.Name x px) "reverse" X.env (eval (.Name x px) X.env) = eval (.Name x px) X.env := by rfl) (hline : (apos.endLine == cpos.line) = true := by rfl)
    (hsw : swapsWith (.Call (.Attribute (.Name x px) "reverse" apos) [] [] cpos) none pos.line X.env = pure false := by rfl) :
    PXS X E (.Expr (.Call (.Attribute (.Name x px) "reverse" apos) [] [] cpos) pos) (sRev i) :=
  ps_weak (ps_expr (pe_bm0 PySem.F.plainAttrs_list PySem.F.slot_list_reverse PySem.F.type_list_reverse mt_reverse (pe_var hN hv hd hcd) hbase hline) hsw) fun Dn σ H ⟨He, Fe, F, ρ, r, fin⟩ => by
    unfold sRev at fin
    cases ho : owAt ρ i with
    | bad => rw [ho] at fin; exact fin.elim
    | err c => unfold owAt at ho; split at ho <;> cases ho
    | ok ds =>
      rw [ho] at fin
      have hi := owAt_ok ho
      obtain ⟨p, vs, h1, h2, h3, h4, h5⟩ := r.own i ds hi
      exact ⟨_, h1, .inl ⟨rfl, vs, SqL.of h4⟩, p, vs, rfl, rfl, h4, fin F σ _ (r.write hi h1 h5.reverse)⟩
end
/-! ### range(a, b, -1) walked -/
def rgD (lo : Int) (n : Nat) : List Int := (List.range n).map fun i => lo - (i : Nat)
theorem goes_rangeD {K : PySem.W.Frag} {mg : Str → Option Value} {F : Hp} (lo : Int) (n : Nat) : Goes K mg (Itc lo (-1) n) F ((rgD lo n).map D.int) := fun i F1 H1 e1 e2 =>
  ⟨fun hl => by show n ≤ i; simpa [rgD] using hl, fun d hd => by
    rw [List.getElem?_map] at hd
    unfold rgD at hd
    rw [List.getElem?_map] at hd
    by_cases hi : i < n
    · rw [List.getElem?_range hi] at hd
      have hd : some (D.int (lo - (i : Int))) = some d := hd
      cases hd
      refine ⟨hi, fun x H' hy => ?_⟩
      obtain ⟨rfl, rfl⟩ := hy
      have e : lo + (i : Int) * (-1) = lo - (i : Int) := by omega
      refine ⟨F1, Stp.refl e2, ?_⟩
      rw [e]
      exact .int _
    · rw [List.getElem?_eq_none (by simpa using hi)] at hd
      cases hd⟩
def rg3 : List D → R (List D)
  | [.int a, .int b, .int c] => if rgOk a b ∧ c = -1 then .ok ((rgD a (a - b).toNat).map D.int) else .bad
  | _ => .bad
section
variable {X : Cx} {E : XK} {tg a b c : Expr} {fs : Env → R (List D)} {p pos : Pos}
theorem pxi_rg3 (hg : Gl X "range") (hm : X.mg "range" = none) (ha : PXs X E [a, b, c] fs) (hs : starEach [a, b, c] X.env = (false, eval a X.env) :: starEach [b, c] X.env := by rfl) (hpl : (backTo pos (starEach [b, c] X.env)).any (·.1) = false := by rfl) : PXI X E tg (.Call (.Name "range" p) [a, b, c] [] pos) (eCallN rg3 fs) :=
  pi_weak (pi_range3 hg hm ha hs hpl) fun σ H Q ⟨F, ρ, fh, en, fin⟩ => tXs_stepI fh en fin fun vs ds F1 H1 s1 r1 fin1 => by
    match ds, r1, fin1 with
    | [.int m, .int n, .int c], .cons (.int _) (.cons (.int _) (.cons (.int _) .nil)), fin1 =>
      have fin2 : FinI X.K X.mg E F1 H1 Q (if rgOk m n ∧ c = -1 then .ok ((rgD m (m - n).toNat).map D.int) else .bad) := fin1
      by_cases hl : rgOk m n ∧ c = -1
      · rw [if_pos hl] at fin2
        obtain ⟨⟨h1, h2, h3, h4⟩, hc⟩ := hl
        refine ⟨m, n, c, (m - n).toNat, rfl, ?_, ?_⟩
        · rw [hc]; exact RgC.neg (by omega) (by omega) (by omega) (by omega)
        · rw [hc]; exact fin2 _ F1 H1 (Stp.refl s1.fh) (goes_rangeD m _)
      · rw [if_neg hl] at fin2
        exact fin2.elim
end
/-! ### while, by fuel -/
def whileGo (t : Env → R Bool) (S : SEnv → R Out) : Nat → SEnv → R Out
  | 0, _ => .bad
  | n + 1, ρ => (t (frE ρ)).bind fun b => if b then (S ρ).bind fun o => match o with
      | .nx ρ' => whileGo t S n ρ'
      | .ct ρ' => whileGo t S n ρ'
      | .bk ρ' => .ok (.nx ρ')
      | o => .ok o
    else .ok (.nx ρ)
def sWhile (n : Nat) (t : Env → R Bool) (S : SEnv → R Out) : SEnv → R Out := whileGo t S n
section
variable {X : Cx} {E : XK} {c : Expr} {body : List Stmt} {t : Env → R Bool} {S : SEnv → R Out} {pos : Pos}
theorem pxs_while (n : Nat) (hp : PassesOwn (model X.prog X.w) X.A X.env X.xe) (hc : PXT X E c t) (hb : PXSs X E body S) : PXS X E (.While c body [] pos) (sWhile n t S) := ps_weak (ps_while hp hc hb) fun Dn σ H ⟨He, Fe, F, ρ, r, fin⟩ => by
  refine ⟨fun m σ' H' => ∃ F' ρ', Rel X.K X.mg He Fe F' ρ' σ' H' ∧ FinS X.K X.mg E He Fe Dn (whileGo t S m ρ'), ⟨n, F, ρ, r, fin⟩, ?_⟩
  rintro m σ' H' ⟨F', ρ', r', fin'⟩
  cases m with
  | zero => exact fin'.elim
  | succ m =>
    unfold whileGo at fin'
    refine r'.evalT fin' fun b H2 e fin2 => ?_
    cases b with
    | false => exact fin2 F' σ' H2 (r'.grow e)
    | true =>
      rw [if_pos rfl]
      rw [if_pos rfl] at fin2
      refine ⟨fun σ2 H2 => ∃ F2 ρ2, Rel X.K X.mg He Fe F2 ρ2 σ2 H2 ∧ FinS X.K X.mg E He Fe Dn (whileGo t S m ρ2), fun σ2 H2 h => ⟨m, Nat.lt_succ_self m, h⟩, ?_⟩
      refine ⟨He, Fe, F', ρ', r'.grow e, ?_⟩
      cases hs : S ρ' with
      | bad => rw [hs] at fin2; exact fin2
      | err c => rw [hs] at fin2; exact fin2
      | ok o =>
        rw [hs] at fin2
        cases o with
        | nx ρ2 => exact fun F3 σ3 H3 r3 => ⟨F3, ρ2, r3, fin2⟩
        | ct ρ2 => exact fun F3 σ3 H3 r3 => ⟨F3, ρ2, r3, fin2⟩
        | bk ρ2 => exact fin2
        | rt d => exact fin2
        | rtN ds => exact fin2
end
end DL
/-! The data layer, C: what the head tells of a class. -/
namespace DL
open PySem L2
section
variable {K : PySem.W.Frag} {mg : Str → Option Value} {h : Heap}
theorem cls_mk {C : Addr} (pg : PySem.W.plainGet K C Str.empty = true) (hd : PySem.W.hasDictIn K C = true) (po : PySem.W.plainOver K C = true) (sa : PySem.W.findIn K (.ref C) "__setattr__" = some (some (.builtin "object.__setattr__"))) : Cls K C := ⟨pg, hd, po, sa⟩
theorem mgc_mk (X : K.In h) (G : h.Ns mainGlobals mg) {c : Str} {C : Addr} (a : PySem.W.nsIn K mainGlobals c = some (some (.ref C))) : ∃ C, mg c = some (.ref C) := ⟨C, PySem.W.mg_of X G a⟩
theorem fld_mk (X : K.In h) (G : h.Ns mainGlobals mg) {c f : Str} {C : Addr} (a : PySem.W.nsIn K mainGlobals c = some (some (.ref C))) (cl : Cls K C) (n : PySem.W.findIn K (.ref C) f = some none) : FldAt K mg c f := ⟨C, PySem.W.mg_of X G a, cl, n⟩
theorem atM_mk (X : K.In h) (G : h.Ns mainGlobals mg) {c m qual : Str} {st : Stmt} {C f : Addr} {oc : Value} {od an : Option Addr} {osl : Array (Option Value)} {kV doc pm cdv ct : Value} (a : PySem.W.nsIn K mainGlobals c = some (some (.ref C))) (cl : Cls K C)
    (b : PySem.W.findIn K (.ref C) m = some (some (.ref f))) (i : PySem.W.isFn K (.ref f) = true) (l : K.lookup f = some ⟨oc, od, .func (PySem.W.fnOf m qual (defArgs st) (defBody st) (defScope st) .none kV doc pm an cdv ct), osl⟩) (cd : PySem.W.codeIn K cdv qual = true) (k : PySem.W.keepIn K (.ref f) = true) : AtM K mg c m qual st :=
  ⟨C, f, _, PySem.W.mg_of X G a, cl, ⟨b, i, k⟩, fun_mk l cd k⟩
theorem atI_mk (X : K.In h) (G : h.Ns mainGlobals mg) {c qual : Str} {st : Stmt} {C f : Addr} {oc : Value} {od an : Option Addr} {osl : Array (Option Value)} {kV doc pm cdv ct : Value} (a : PySem.W.nsIn K mainGlobals c = some (some (.ref C))) (cl : Cls K C) (mk : PySem.W.makesIn K C = true) (kc : PySem.W.keepIn K (.ref C) = true)
    (b : PySem.W.findIn K (.ref C) "__init__" = some (some (.ref f))) (i : PySem.W.isFn K (.ref f) = true) (l : K.lookup f = some ⟨oc, od, .func (PySem.W.fnOf "__init__" qual (defArgs st) (defBody st) (defScope st) .none kV doc pm an cdv ct), osl⟩) (cd : PySem.W.codeIn K cdv qual = true) (k : PySem.W.keepIn K (.ref f) = true) : AtI K mg c qual st :=
  ⟨C, f, _, PySem.W.mg_of X G a, cl, ⟨mk, b, i, kc⟩, fun_mk l cd k⟩
theorem isi_mk (X : K.In h) (G : h.Ns mainGlobals mg) {c c' : Str} {C C' : Addr} {b : Bool} (a : PySem.W.nsIn K mainGlobals c = some (some (.ref C))) (a' : PySem.W.nsIn K mainGlobals c' = some (some (.ref C'))) (cl : Cls K C) (ha : PySem.W.findIn K (.ref C) "__class__" = some (some (.builtin "object.__class__")))
    (hn : PySem.W.specialIn K (.builtin "object.__class__") "__get__" = some (some (.builtin "getset_descriptor.__get__"))) (htk : PySem.W.takesIn K (.builtin "object.__class__") = some true) (hm : PySem.W.mroIn K C (.type "object") = some true) (kit : PySem.W.kitOne K (.ref C) (.ref C') = some b) : IsiAt K mg c c' b :=
  ⟨C, C', PySem.W.mg_of X G a, PySem.W.mg_of X G a', fun H p dx fs e => .ins e cl ha hn htk hm, kit⟩
theorem kit_self (C : Addr) : PySem.W.kitOne K (.ref C) (.ref C) = some true := if_pos (beq_self_eq_true _)
theorem kit_no {C C' : Addr} (sub : PySem.W.subIn K (.ref C) (.ref C') = some false) (self : PySem.W.subIn K (.ref C) (.ref C) = some true) (is : PySem.W.isClsIn K C' = true) (ty : PySem.W.typeIn K (.ref C') = some (.type "type")) : PySem.W.kitOne K (.ref C) (.ref C') = some false := by
  have ne : (Value.ref C == Value.ref C') = false := by
    cases h : (Value.ref C == Value.ref C') with
    | false => rfl
    | true =>
      have e := eq_of_beq h
      cases e
      rw [sub] at self
      cases self
  unfold PySem.W.kitOne PySem.W.kitCls
  rw [ne]
  simp only [Bool.false_eq_true, if_false]
  unfold PySem.W.isClsIn at is
  rw [ty, is]
  simpa using sub
end
end DL
/-! wishes -/
namespace DL
open PySem L2
def S_check_things : SEnv → R Out :=
  (sIf (bNot (bE (eCall (callF 3 m_is_between) (aCons (eVar 0) (aCons (eC (.int 1)) (aCons (eC (.int 60)) aNil))))))
  (sRaise "BadThings")
  sNext)
def m_check_things : List D → R D := runX 1 S_check_things
def S_are_places : SEnv → R Out :=
  (sSeq (sIf (bOr (bNot (bE (eUn (oIsi "list") (eVar 0)))) (bNot (bE (eCall oAll (aCons (eNew (eLc (iOf (eVar 0)) (.nm 2) bYes (eCall (callF 3 m_is_between) (aCons (eVar 2) (aCons (eC (.int 0)) (aCons (eOp oSub (eVar 1) (eC (.int 1))) aNil)))) [2])) aNil)))))
  (sRet (eC (.bl false)))
  sNext)
  (sRet (eCall oAll (aCons (eNew (eLc (iZi (eVar 0) (eNew (eSl (eVar 0) (pSome (eC (.int 1))) pNo))) (.tp (.cons (.nm 2) (.cons (.nm 3) .nil))) bYes (eOp oLt (eVar 2) (eVar 3)) [2, 3])) aNil))))
def m_are_places : List D → R D := runX 4 S_are_places
def S_check_wish : SEnv → R Out :=
  (sSeq (sIf (bOr (bNot (bE (eUn (oIsi "tuple") (eVar 1)))) (bE (eOp oNe (eCall oLen (aCons (eVar 1) aNil)) (eC (.int 2)))))
  (sRaise "BadWish")
  sNext)
  (sIf (bNot (bE (eCall oAll (aCons (eNew (eLc (iOf (eVar 1)) (.nm 2) bYes (eOr (eOp oIs (eVar 2) (eC .non)) (eCall (callF 2 m_are_places) (aCons (eVar 2) (aCons (eVar 0) aNil)))) [2])) aNil))))
  (sRaise "BadWish")
  sNext))
def m_check_wish : List D → R D := runX 3 S_check_wish
def S_span : SEnv → R Out :=
  (sSeq (sUnp (.tp (.cons (.nm 2) (.cons (.nm 3) .nil))) (eVar 1))
  (sSeq (sPar [4, 5] (bsCons (bH (eC (.int 0))) (bsCons (bH (eVar 0)) bsNil)))
  (sSeq (sIf (bE (eOp oIsNot (eVar 2) (eC .non)))
  (sUnp (.tp (.cons (.nm 4) (.cons (.nm 5) .nil))) (eIf (bE (eOp oInX (eVar 0) (eVar 2))) (eTup (aCons (eVar 0) (aCons (eVar 0) aNil))) (eTup (aCons (eC (.int 0)) (aCons (eOp oSub (eVar 0) (eC (.int 1))) aNil)))))
  sNext)
  (sSeq (sIf (bE (eOp oIsNot (eVar 3) (eC .non)))
  (sUnp (.tp (.cons (.nm 4) (.cons (.nm 5) .nil))) (eIf (bE (eOp oInX (eVar 0) (eVar 3))) (eTup (aCons (eVar 4) (aCons (eCall oMin (aCons (eVar 5) (aCons (eC (.int 0)) aNil))) aNil))) (eTup (aCons (eCall oMax (aCons (eVar 4) (aCons (eC (.int 1)) aNil))) (aCons (eVar 5) aNil)))))
  sNext)
  (sRet (eTup (aCons (eVar 4) (aCons (eVar 5) aNil))))))))
def m_span : List D → R D := runX 6 S_span
def S_spans : SEnv → R Out :=
  (sRetN (eLc (eCallN rg1 (aCons (eVar 0) aNil)) (.nm 2) bYes (eCall (callF 2 m_span) (aCons (eVar 2) (aCons (eVar 1) aNil))) [2]))
def m_spans : List D → R (List D) := runN 3 S_spans
def S_bar_of : SEnv → R Out :=
  (sSeq (sFor (iEn (eNew (eCallN (callF 2 m_spans) (aCons (eVar 0) (aCons (eVar 1) aNil))))) (.tp (.cons (.nm 2) (.cons (.tp (.cons (.nm 3) (.cons (.nm 4) .nil))) .nil)))
  (sIf (bE (eOp oGt (eVar 3) (eVar 4)))
  (sRet (eVar 2))
  sNext))
  (sRet (eC .non)))
def m_bar_of : List D → R D := runX 5 S_bar_of
def S_is_kept : SEnv → R Out :=
  (sRet (eCall oAll (aCons (eNew (eLc (iZi (eNew (eCallN (callF 1 m_ranks_in) (aCons (eVar 0) aNil))) (eNew (eCallN (callF 2 m_spans) (aCons (eCall oLen (aCons (eVar 0) aNil)) (aCons (eVar 1) aNil))))) (.tp (.cons (.nm 2) (.cons (.tp (.cons (.nm 3) (.cons (.nm 4) .nil))) .nil))) bYes (eChain oLe oLe (eVar 3) (eVar 2) (eVar 4)) [2, 3, 4])) aNil)))
def m_is_kept : List D → R D := runX 5 S_is_kept
def S_is_one : SEnv → R Out :=
  (sRet (eAnd (eCall (callF 1 m_is_row) (aCons (eVar 2) aNil)) (eAnd (eOp oEq (eCall oLen (aCons (eVar 2) aNil)) (eVar 0)) (eCall (callF 2 m_is_kept) (aCons (eVar 2) (aCons (eVar 1) aNil))))))
def m_is_one : List D → R D := runX 3 S_is_one
def S_Can_init : DL.Env → R (List (Str × D)) :=
  (iCons "row" (eNew (eCallN oList (aCons (eVar 1) aNil))) iNil)
def m_Can_init : List D → R (List (Str × D)) := runI 2 S_Can_init
def S_Can_shows : SEnv → R Out :=
  (sRet (eCall (callF 3 m_is_one) (aCons (eVar 1) (aCons (eVar 2) (aCons (eUn (oFld ["Can"] "row") (eVar 0)) aNil)))))
def m_Can_shows : List D → R D := runX 3 S_Can_shows
def S_Never_init : DL.Env → R (List (Str × D)) :=
  (iCons "place" (eVar 1) iNil)
def m_Never_init : List D → R (List (Str × D)) := runI 2 S_Never_init
def S_Never_shows : SEnv → R Out :=
  (sRet (eOp oEq (eUn (oFld ["Never"] "place") (eVar 0)) (eCall (callF 2 m_bar_of) (aCons (eVar 1) (aCons (eVar 2) aNil)))))
def m_Never_shows : List D → R D := runX 3 S_Never_shows
def S_judged : SEnv → R Out :=
  (sSeq (sExpr (eCall (callF 1 m_check_things) (aCons (eVar 0) aNil)))
  (sSeq (sExpr (eCall (callF 2 m_check_wish) (aCons (eVar 0) (aCons (eVar 1) aNil))))
  (sSeq (sAsgH 2 (eCall (callF 2 m_bar_of) (aCons (eVar 0) (aCons (eVar 1) aNil))))
  (sSeq (sIf (bE (eOp oIsNot (eVar 2) (eC .non)))
  (sRet (eCall (oMake "Never" 2 m_Never_init) (aCons (eVar 2) aNil)))
  sNext)
  (sRet (eCall (oMake "Can" 2 m_Can_init) (aCons (eNew (eCallN (callF 1 m_row_by_ranks) (aCons (eNew (eLc (iOf (eNew (eCallN (callF 2 m_spans) (aCons (eVar 0) (aCons (eVar 1) aNil))))) (.tp (.cons (.nm 3) (.cons (.nm 4) .nil))) bYes (eVar 4) [3, 4])) aNil))) aNil)))))))
def m_judged : List D → R D := runX 5 S_judged
def S_how_many : SEnv → R Out :=
  (sSeq (sExpr (eCall (callF 1 m_check_things) (aCons (eVar 0) aNil)))
  (sSeq (sExpr (eCall (callF 2 m_check_wish) (aCons (eVar 0) (aCons (eVar 1) aNil))))
  (sSeq (sAsgH 2 (eC (.int 1)))
  (sSeq (sFor (iOf (eNew (eCallN (callF 2 m_spans) (aCons (eVar 0) (aCons (eVar 1) aNil))))) (.tp (.cons (.nm 3) (.cons (.nm 4) .nil)))
  (sAug 2 oMul (eCall oMax (aCons (eC (.int 0)) (aCons (eOp oAdd (eOp oSub (eVar 4) (eVar 3)) (eC (.int 1))) aNil)))))
  (sRet (eVar 2))))))
def m_how_many : List D → R D := runX 5 S_how_many
def S_keeps : SEnv → R Out :=
  (sSeq (sExpr (eCall (callF 1 m_check_row) (aCons (eVar 0) aNil)))
  (sSeq (sExpr (eCall (callF 2 m_check_wish) (aCons (eCall oLen (aCons (eVar 0) aNil)) (aCons (eVar 1) aNil))))
  (sRet (eCall (callF 2 m_is_kept) (aCons (eVar 0) (aCons (eVar 1) aNil))))))
def m_keeps : List D → R D := runX 2 S_keeps
def S__law_says : SEnv → R Out :=
  (sRet (eAnd (eUn (oIsi "bool") (eVar 0)) (eOp oEq (eVar 0) (eVar 1))))
def m__law_says : List D → R D := runX 2 S__law_says
/-! what a wish is -/
abbrev Wl := Option (List Int)
def wD : Wl → D
  | none => .non
  | some xs => Li xs
abbrev Wi (H L : Wl) : D := .tup [wD H, wD L]
theorem ev_things (n : Int) : m_check_things [.int n] = if 1 ≤ n ∧ n ≤ 60 then .ok .non else .err "BadThings" := by
  by_cases h : 1 ≤ n ∧ n ≤ 60
  · simp [m_check_things, S_check_things, runX, initS, ev_between, h]
  · simp only [h, if_false]
    have : (decide (1 ≤ n) && decide (n ≤ 60)) = false := by
      cases hb : (decide (1 ≤ n) && decide (n ≤ 60)) with
      | false => rfl
      | true => exact absurd (by simpa using hb) h
    simp [m_check_things, S_check_things, runX, initS, ev_between, this]
def isPlaces (n : Int) (xs : List Int) : Bool := (xs.all fun x => decide (0 ≤ x) && decide (x ≤ n - 1)) && ((xs.zip (xs.tail)).all fun p => decide (p.1 < p.2))
theorem cut_drop1 {α : Type} (xs : List α) : cutD xs (some 1) none = xs.tail := by
  unfold cutD
  rw [HT.sIx_none, show HT.sIx xs.length 0 (some (1 : Int)) = min 1 xs.length from HT.sIx_nat xs.length 0 1]
  cases xs with
  | nil => rfl
  | cons x xs =>
    have : min 1 (x :: xs).length = 1 := by simp
    rw [this]
    simp
theorem zipWith_map (xs ys : List Int) : List.zipWith (fun d e => D.tup [d, e]) (xs.map D.int) (ys.map D.int) = (xs.zip ys).map fun p => .tup [.int p.1, .int p.2] := by
  rw [List.zipWith_map, List.zip, List.map_zipWith]
theorem ev_are_places (n : Int) (xs : List Int) (h : xs.length ≤ 1000) : m_are_places [Li xs, .int n] = .ok (.bl (isPlaces n xs)) := by
  have h0 : xs.length ≤ 100000 := by omega
  have h1 : xs.length ≤ 100001 := by omega
  have h5 : lcGo (.nm 2) bYes (eCall (callF 3 m_is_between) (aCons (eVar 2) (aCons (eC (.int 0)) (aCons (eOp oSub (eVar 1) (eC (.int 1))) aNil)))) [some (Li xs), some (.int n), none, none] (xs.map D.int) = .ok (xs.map fun x => .bl (decide (0 ≤ x) && decide (x ≤ n - 1))) := lc_all (g := fun x => .bl (decide (0 ≤ x) && decide (x ≤ n - 1))) fun x _ => by simp [ev_between]
  have h6 : lcGo (.tp (.cons (.nm 2) (.cons (.nm 3) .nil))) bYes (eOp oLt (eVar 2) (eVar 3)) [some (Li xs), some (.int n), none, none] ((xs.zip (xs.tail)).map fun p => .tup [.int p.1, .int p.2]) = .ok ((xs.zip (xs.tail)).map fun p => .bl (decide (p.1 < p.2))) := by
    have := lcGo_map (t := .tp (.cons (.nm 2) (.cons (.nm 3) .nil))) (tt := bYes) (te := eOp oLt (eVar 2) (eVar 3)) (ρ := [some (Li xs), some (.int n), none, none]) (fun p : Int × Int => D.tup [.int p.1, .int p.2]) (fun p => [(2, .int p.1), (3, .int p.2)]) (fun _ => true) (fun p => .bl (decide (p.1 < p.2))) (xs.zip (xs.tail)) (fun p _ => by simp) (fun _ _ => rfl) (fun p _ _ => by simp)
    rw [this, List.filter_eq_self.mpr (fun _ _ => rfl)]
  have h7 : iZi (eVar 0) (eNew (eSl (eVar 0) (pSome (eC (.int 1))) pNo)) [some (Li xs), some (.int n), none, none] = .ok ((xs.zip (xs.tail)).map fun p => .tup [.int p.1, .int p.2]) := by
    unfold iZi
    simp only [var_0, R.bind_ok, ap_New, ap_Sl, ap_pSome, ap_C, ap_asI, ap_pNo, sl_lst, R.map_ok, cut_drop1, ← List.map_tail, zipWith_map]
  unfold m_are_places runX S_are_places isPlaces
  cases hb : (xs.all fun x => decide (0 ≤ x) && decide (x ≤ n - 1)) with
  | false => simp [initS, List.replicate, h5, h0, all_true, hb]
  | true => simp [initS, List.replicate, h5, h6, h7, h0, h1, all_true, hb]

def okW (n : Int) : Wl → Bool
  | none => true
  | some xs => isPlaces n xs
def shortW : Wl → Prop
  | none => True
  | some xs => xs.length ≤ 1000
theorem ev_check_wish (n : Int) (H L : Wl) (hH : shortW H) (hL : shortW L) : m_check_wish [.int n, Wi H L] = if okW n H && okW n L then .ok .non else .err "BadWish" := by
  have one : ∀ (W : Wl) (ρ : DL.Env), shortW W → eOr (eOp oIs (eVar 2) (eC .non)) (eCall (callF 2 m_are_places) (aCons (eVar 2) (aCons (eVar 0) aNil))) [some (.int n), some (Wi H L), some (wD W)] = .ok (.bl (okW n W)) := by
    intro W ρ hW
    cases W with
    | none => simp [wD, okW]
    | some xs => simp [wD, okW, ev_are_places n xs hW]
  have h5 : lcGo (.nm 2) bYes (eOr (eOp oIs (eVar 2) (eC .non)) (eCall (callF 2 m_are_places) (aCons (eVar 2) (aCons (eVar 0) aNil)))) [some (.int n), some (Wi H L), none] [wD H, wD L] = .ok [.bl (okW n H), .bl (okW n L)] := by
    have e := lc_nm (j := 2) (tt := bYes) (te := eOr (eOp oIs (eVar 2) (eC .non)) (eCall (callF 2 m_are_places) (aCons (eVar 2) (aCons (eVar 0) aNil)))) (ρ := [some (.int n), some (Wi H L), none]) wD (fun _ => true) (fun W => .bl (okW n W)) [H, L] (fun _ _ => rfl) (fun W hW _ => by
      refine one W [] ?_
      rcases List.mem_cons.mp hW with rfl | hW
      · exact hH
      · rw [List.mem_singleton.mp hW]; exact hL)
    rw [List.filter_eq_self.mpr (fun _ _ => rfl)] at e
    exact e
  have h6 : oAll [.lst [.bl (okW n H), .bl (okW n L)]] = .ok (.bl (okW n H && okW n L)) := by
    have := all_bls [okW n H, okW n L]
    simpa using this
  unfold m_check_wish runX S_check_wish
  cases hb : (okW n H && okW n L) with
  | true => simp [initS, List.replicate, h5, h6, hb]
  | false => simp [initS, List.replicate, h5, h6, hb]
/-! spans -/
def spanH (p : Int) : Wl → Int × Int
  | none => (0, p)
  | some hs => if p ∈ hs then (p, p) else (0, p - 1)
def spanL (p : Int) (ab : Int × Int) : Wl → Int × Int
  | none => ab
  | some ls => if p ∈ ls then (ab.1, min ab.2 0) else (max ab.1 1, ab.2)
def spanF (H L : Wl) (p : Int) : Int × Int := spanL p (spanH p H) L
abbrev pD (ab : Int × Int) : D := .tup [.int ab.1, .int ab.2]
theorem inX_ints (i : Int) (xs : List Int) : oInX (.int i) (.lst (xs.map D.int)) = .ok (.bl (decide (i ∈ xs))) := by
  have e : inD (.int i) (.lst (xs.map D.int)) = .ok (decide (i ∈ xs)) := by
    unfold inD seqD
    simp only [flat_int, flats_ints, and_self, if_true]
    congr 1
    induction xs with
    | nil => rfl
    | cons x xs ih =>
      rw [List.map_cons, List.any_cons, ih]
      by_cases h : x = i
      · subst h; simp [eqF]
      · have : eqF (.int x) (.int i) = false := by simp [eqF, h]
        have h' : ¬ i = x := fun e => h e.symm
        simp [this, h']
  unfold oInX inX
  rw [e]
  rfl
theorem min_two (i j : Int) : oMin [.int i, .int j] = .ok (.int (min i j)) := by
  have e : (if j < i then j else i) = min i j := by split <;> omega
  show R.ok (D.int (if j < i then j else i)) = _
  rw [e]
theorem max_two (i j : Int) : oMax [.int i, .int j] = .ok (.int (max i j)) := by
  have e : (if j > i then j else i) = max i j := by split <;> omega
  show R.ok (D.int (if j > i then j else i)) = _
  rw [e]
theorem ev_span (p : Int) (H L : Wl) : m_span [.int p, Wi H L] = .ok (pD (spanF H L p)) := by
  unfold m_span runX S_span spanF
  cases H with
  | none =>
    cases L with
    | none => simp [initS, List.replicate, wD, spanH, spanL]
    | some ls =>
      by_cases h : p ∈ ls
      · simp [initS, List.replicate, wD, spanH, spanL, inX_ints, h, min_two]
      · simp [initS, List.replicate, wD, spanH, spanL, inX_ints, h, max_two]
  | some hs =>
    by_cases h2 : p ∈ hs
    · cases L with
      | none => simp [initS, List.replicate, wD, spanH, spanL, inX_ints, h2]
      | some ls =>
        by_cases h : p ∈ ls
        · simp [initS, List.replicate, wD, spanH, spanL, inX_ints, h, h2, min_two]
        · simp [initS, List.replicate, wD, spanH, spanL, inX_ints, h, h2, max_two]
    · cases L with
      | none => simp [initS, List.replicate, wD, spanH, spanL, inX_ints, h2]
      | some ls =>
        by_cases h : p ∈ ls
        · simp [initS, List.replicate, wD, spanH, spanL, inX_ints, h, h2, min_two]
        · simp [initS, List.replicate, wD, spanH, spanL, inX_ints, h, h2, max_two]
def spansF (n : Nat) (H L : Wl) : List (Int × Int) := (rgN 0 n).map (spanF H L)
theorem ev_spans (n : Nat) (H L : Wl) (h : n ≤ 1000) : m_spans [.int n, Wi H L] = .ok ((spansF n H L).map pD) := by
  have h1 : -1000000 ≤ (n : Int) ∧ (n : Int) ≤ 1000000 := by omega
  have h0 : n ≤ 100000 := by omega
  have h5 : lcGo (.nm 2) bYes (eCall (callF 2 m_span) (aCons (eVar 2) (aCons (eVar 1) aNil))) [some (.int (n : Int)), some (Wi H L), none] ((rgN 0 n).map D.int) = .ok ((rgN 0 n).map fun p => pD (spanF H L p)) := lc_all (g := fun p => pD (spanF H L p)) fun p _ => by simp [ev_span]
  simp [m_spans, S_spans, runN, initS, List.replicate, rg1_ok h1, h5, rgN_len, h0, spansF]
theorem spansF_len (n : Nat) (H L : Wl) : (spansF n H L).length = n := by simp [spansF, rgN_len]

/-! the least place that bars -/
def barAt (H L : Wl) (p : Int) : Bool := decide ((spanF H L p).2 < (spanF H L p).1)
def barF (n : Nat) (H L : Wl) : Option Int := (rgN 0 n).find? (barAt H L)
def optD : Option Int → D
  | none => .non
  | some i => .int i
theorem mapIdx_rg {α : Type} (f : Int → α) (n : Nat) (lo : Int) : ((rgN lo n).map f).zipIdx = (rgN lo n).map fun p => (f p, (p - lo).toNat) := by
  apply List.ext_getElem?
  intro i
  rw [List.getElem?_zipIdx, List.getElem?_map, List.getElem?_map]
  cases h : (rgN lo n)[i]? with
  | none => rfl
  | some x =>
    obtain ⟨_, rfl⟩ := rgN_get h
    have e : (lo + (i : Int) - lo).toNat = i := by omega
    simp [e]
theorem enum_spans (n : Nat) (H L : Wl) : ((spansF n H L).map pD).mapIdx (fun i d => D.tup [.int (i : Nat), d]) = (rgN 0 n).map fun p => .tup [.int p, pD (spanF H L p)] := by
  unfold spansF
  rw [List.map_map, List.mapIdx_eq_zipIdx_map, mapIdx_rg, List.map_map]
  apply List.map_congr_left
  intro p hp
  have := mem_rgN.mp hp
  have e : max p 0 = p := by omega
  simp [e]
theorem bar_loop (H L : Wl) (ρ0 ρ1 : VE) : ∀ (xs : List Int) (d2 d3 d4 : VE), ∃ σ', forGo (.tp (.cons (.nm 2) (.cons (.tp (.cons (.nm 3) (.cons (.nm 4) .nil))) .nil))) (sIf (bE (eOp oGt (eVar 3) (eVar 4))) (sRet (eVar 2)) sNext) (xs.map fun p => .tup [.int p, pD (spanF H L p)]) [ρ0, ρ1, d2, d3, d4] =
    .ok (match xs.find? (barAt H L) with | some p => .rt (.int p) | none => .nx σ')
  | [], d2, d3, d4 => ⟨_, rfl⟩
  | p :: xs, d2, d3, d4 => by
    obtain ⟨σ', e⟩ := bar_loop H L ρ0 ρ1 xs (.sh (.int p)) (.sh (.int (spanF H L p).1)) (.sh (.int (spanF H L p).2))
    refine ⟨σ', ?_⟩
    rw [List.map_cons, for_cons (as := [(2, .int p), (3, .int (spanF H L p).1), (4, .int (spanF H L p).2)]) (by simp)]
    rw [List.find?_cons]
    unfold barAt at e ⊢
    by_cases h : (spanF H L p).2 < (spanF H L p).1
    · simp [frE_cons, h]
    · simp [frE_cons, h]
      simpa using e
theorem ev_bar_of (n : Nat) (H L : Wl) (h : n ≤ 1000) : m_bar_of [.int n, Wi H L] = .ok (optD (barF n H L)) := by
  obtain ⟨σ', e⟩ := bar_loop H L (.sh (.int n)) (.sh (Wi H L)) (rgN 0 n) .un .un .un
  have h7 : iEn (eNew (eCallN (callF 2 m_spans) (aCons (eVar 0) (aCons (eVar 1) aNil)))) [some (.int (n : Int)), some (Wi H L), none, none, none] = .ok (((spansF n H L).map pD).mapIdx (fun i d => D.tup [.int (i : Nat), d])) := by
    unfold iEn
    simp [ev_spans n H L h]
  unfold m_bar_of runX S_bar_of barF
  cases hf : (rgN 0 n).find? (barAt H L) with
  | none =>
    rw [hf] at e
    simp [initS, List.replicate, h7, enum_spans, e, optD]
  | some p =>
    rw [hf] at e
    simp [initS, List.replicate, h7, enum_spans, e, optD]
/-! a row keeps a wish -/
def keptF (rs : List Int) (H L : Wl) : Bool := (rs.zip (spansF rs.length H L)).all fun q => decide (q.2.1 ≤ q.1) && decide (q.1 ≤ q.2.2)
theorem ev_is_kept (xs : List Int) (H L : Wl) (h : xs.length ≤ 1000) : m_is_kept [Li xs, Wi H L] = .ok (.bl (keptF (ranksIn xs) H L)) := by
  have h0 : xs.length ≤ 100000 := by omega
  have h7 : iZi (eNew (eCallN (callF 1 m_ranks_in) (aCons (eVar 0) aNil))) (eNew (eCallN (callF 2 m_spans) (aCons (eCall oLen (aCons (eVar 0) aNil)) (aCons (eVar 1) aNil)))) [some (Li xs), some (Wi H L), none, none, none] = .ok (((ranksIn xs).zip (spansF xs.length H L)).map fun q => .tup [.int q.1, pD q.2]) := by
    unfold iZi
    simp [ev_ranks_in h, ev_spans xs.length H L h, List.zip, List.zipWith_map, List.map_zipWith]
  have h6 : lcGo (.tp (.cons (.nm 2) (.cons (.tp (.cons (.nm 3) (.cons (.nm 4) .nil))) .nil))) bYes (eChain oLe oLe (eVar 3) (eVar 2) (eVar 4)) [some (Li xs), some (Wi H L), none, none, none] (((ranksIn xs).zip (spansF xs.length H L)).map fun q => .tup [.int q.1, pD q.2]) = .ok (((ranksIn xs).zip (spansF xs.length H L)).map fun q => .bl (decide (q.2.1 ≤ q.1) && decide (q.1 ≤ q.2.2))) := by
    have := lcGo_map (t := .tp (.cons (.nm 2) (.cons (.tp (.cons (.nm 3) (.cons (.nm 4) .nil))) .nil))) (tt := bYes) (te := eChain oLe oLe (eVar 3) (eVar 2) (eVar 4)) (ρ := [some (Li xs), some (Wi H L), none, none, none]) (fun q : Int × (Int × Int) => D.tup [.int q.1, pD q.2]) (fun q => [(2, .int q.1), (3, .int q.2.1), (4, .int q.2.2)]) (fun _ => true) (fun q => .bl (decide (q.2.1 ≤ q.1) && decide (q.1 ≤ q.2.2))) ((ranksIn xs).zip (spansF xs.length H L)) (fun p _ => by simp) (fun _ _ => rfl) (fun q _ _ => by
      by_cases h : q.2.1 ≤ q.1 <;> simp [h])
    rw [this, List.filter_eq_self.mpr (fun _ _ => rfl)]
  have hl : (((ranksIn xs).zip (spansF xs.length H L)).map fun q => D.tup [.int q.1, pD q.2]).length ≤ 100000 := by
    simp [ranksIn_len, spansF_len]; omega
  unfold m_is_kept runX S_is_kept keptF
  rw [ranksIn_len]
  simp only [initS, List.replicate, ap_sRet, ap_Call, ap_aCons, ap_New, ap_Lc, List.map_cons, List.map_nil, List.cons_append, List.nil_append, List.length_cons, List.length_nil, Nat.reduceAdd, Nat.reduceSub, frE_sh, frE_un, frE_nil, h7, R.bind_ok, hl, if_true, wipeD_cons, wipeD_nil, List.set_cons_succ, List.set_cons_zero, h6, R.map_ok, ap_aNil, all_true, ap_outRt]
theorem ev_is_one (n : Nat) (xs : List Int) (H L : Wl) : m_is_one [.int n, Wi H L, Li xs] = .ok (.bl (isRow xs && (decide (xs.length = n) && keptF (ranksIn xs) H L))) := by
  unfold m_is_one runX S_is_one
  cases hr : isRow xs with
  | false => simp [initS, List.replicate, ev_is_row, hr]
  | true =>
    have hl := isRow_len hr
    by_cases hn : xs.length = n
    · have hn' : (xs.length : Int) = n := by omega
      simp [initS, List.replicate, ev_is_row, hr, hn, hn', ev_is_kept xs H L (by omega)]
    · have hn' : ¬ (xs.length : Int) = n := by omega
      simp [initS, List.replicate, ev_is_row, hr, hn, hn']

/-! answers: Can, Never -/
abbrev canD (row : List Int) : D := .obj "Can" ["row"] [Li row]
abbrev neverD (p : Int) : D := .obj "Never" ["place"] [.int p]
theorem mk_Can (row : List Int) : oMake "Can" 2 m_Can_init [Li row] = .ok (canD row) := by
  simp [oMake, m_Can_init, runI, S_Can_init, initI, iCons, iNil, noErr, List.replicate]
theorem mk_Never (p : Int) : oMake "Never" 2 m_Never_init [.int p] = .ok (neverD p) := by
  simp [oMake, m_Never_init, runI, S_Never_init, initI, iCons, iNil, noErr, List.replicate]
theorem fld_row (cs : List Str) (h : ("Can" : Str) ∈ cs) (row : List Int) : oFld cs "row" (canD row) = .ok (Li row) := by
  simp [oFld, h, List.zip]
theorem fld_place (cs : List Str) (h : ("Never" : Str) ∈ cs) (p : Int) : oFld cs "place" (neverD p) = .ok (.int p) := by
  simp [oFld, h, List.zip]
theorem ev_Can_shows (row : List Int) (n : Nat) (H L : Wl) : m_Can_shows [canD row, .int n, Wi H L] = .ok (.bl (isRow row && (decide (row.length = n) && keptF (ranksIn row) H L))) := by
  simp [m_Can_shows, S_Can_shows, runX, initS, List.replicate, fld_row, ev_is_one]
theorem eq_opt (p : Int) (q : Option Int) : oEq (.int p) (optD q) = .ok (.bl (decide (q = some p))) := by
  cases q with
  | none => rfl
  | some r =>
    simp only [optD, oEq_int]
    congr 2
    by_cases h : p = r
    · simp [h]
    · have : ¬ r = p := fun e => h e.symm
      simp [h, this]
theorem ev_Never_shows (p : Int) (n : Nat) (H L : Wl) (h : n ≤ 1000) : m_Never_shows [neverD p, .int n, Wi H L] = .ok (.bl (decide (barF n H L = some p))) := by
  simp [m_Never_shows, S_Never_shows, runX, initS, List.replicate, fld_place, ev_bar_of n H L h, eq_opt]
/-! judged -/
def mosts (n : Nat) (H L : Wl) : List Int := (spansF n H L).map (·.2)
theorem okW_short {n : Int} {W : Wl} (h : okW n W = true) (hn : n ≤ 60) : shortW W := by
  cases W with
  | none => trivial
  | some xs =>
    unfold okW isPlaces at h
    rw [Bool.and_eq_true] at h
    obtain ⟨h1, h2⟩ := h
    show xs.length ≤ 1000
    -- a rising list within 0 .. n - 1 has at most n items
    have key : ∀ (xs : List Int) (lo : Int), 0 ≤ lo → (∀ x ∈ xs, lo ≤ x ∧ x ≤ n - 1) → ((xs.zip xs.tail).all fun p => decide (p.1 < p.2)) = true → (xs.length : Int) ≤ max 0 (n - lo) := by
      intro xs
      induction xs with
      | nil => intro lo _ _ _; simp; omega
      | cons x xs ih =>
        intro lo hlo hx hz
        have hx0 := hx x List.mem_cons_self
        cases xs with
        | nil => simp; omega
        | cons y ys =>
          simp only [List.tail_cons, List.zip_cons_cons, List.all_cons, Bool.and_eq_true, decide_eq_true_eq] at hz
          have := ih (x + 1) (by omega) (fun z hz' => by
            have hb := hx z (List.mem_cons_of_mem _ hz')
            refine ⟨?_, hb.2⟩
            -- all behind x are greater
            have mono : ∀ (zs : List Int) (a : Int), ((zs.zip zs.tail).all fun p => decide (p.1 < p.2)) = true → zs.head? = some a → ∀ z ∈ zs, a ≤ z := by
              intro zs
              induction zs with
              | nil => intro a _ h; cases h
              | cons w ws ihw =>
                intro a hw ha z hz
                cases ha
                rcases List.mem_cons.mp hz with rfl | hz
                · omega
                · cases ws with
                  | nil => cases hz
                  | cons u us =>
                    simp only [List.tail_cons, List.zip_cons_cons, List.all_cons, Bool.and_eq_true, decide_eq_true_eq] at hw
                    have := ihw u hw.2 rfl z hz
                    omega
            have := mono (y :: ys) y hz.2 rfl z hz'
            omega) hz.2
          simp only [List.length_cons] at this ⊢
          omega
    have := key xs 0 (by omega) (fun x hx => by
      have := List.all_eq_true.mp h1 x hx
      simp at this
      omega) h2
    omega
theorem okW_shorts {n : Int} {H L : Wl} (h : (okW n H && okW n L) = true) (hn : n ≤ 60) : shortW H ∧ shortW L := by
  rw [Bool.and_eq_true] at h
  exact ⟨okW_short h.1 hn, okW_short h.2 hn⟩
theorem ev_judged (n : Nat) (H L : Wl) (h1 : 1 ≤ n) (h2 : n ≤ 60) (hw : (okW n H && okW n L) = true) : m_judged [.int n, Wi H L] = .ok (match barF n H L with | some p => neverD p | none => canD (rowBy (mosts n H L))) := by
  obtain ⟨sH, sL⟩ := okW_shorts hw (by omega)
  have e1 : m_check_things [.int (n : Int)] = .ok .non := by rw [ev_things, if_pos (by omega)]
  have e2 := ev_check_wish n H L sH sL
  rw [hw, if_pos rfl] at e2
  have h5 : lcGo (.tp (.cons (.nm 3) (.cons (.nm 4) .nil))) bYes (eVar 4) [some (.int (n : Int)), some (Wi H L), some .non, none, none] ((spansF n H L).map pD) = .ok ((mosts n H L).map D.int) := by
    have := lcGo_map (t := .tp (.cons (.nm 3) (.cons (.nm 4) .nil))) (tt := bYes) (te := eVar 4) (ρ := [some (.int (n : Int)), some (Wi H L), some .non, none, none]) pD (fun q => [(3, .int q.1), (4, .int q.2)]) (fun _ => true) (fun q => .int q.2) (spansF n H L) (fun p _ => by simp) (fun _ _ => rfl) (fun q _ _ => by simp)
    rw [this, List.filter_eq_self.mpr (fun _ _ => rfl)]
    simp [mosts]
  have hl : ((spansF n H L).map pD).length ≤ 100000 := by rw [List.length_map, spansF_len]; omega
  have hm : (mosts n H L).length ≤ 1000 := by unfold mosts; rw [List.length_map, spansF_len]; omega
  unfold m_judged runX S_judged
  cases hb : barF n H L with
  | some p => simp [initS, List.replicate, e1, e2, ev_bar_of n H L (by omega), hb, optD, mk_Never]
  | none =>
    have hl' : n ≤ 100000 := by omega
    simp [initS, List.replicate, e1, e2, ev_bar_of n H L (by omega), hb, optD, ev_spans n H L (by omega), h5, spansF_len, hl', ev_row_by_ranks hm, mk_Can]
/-! how many -/
def prodF (xs : List (Int × Int)) : Int := xs.foldl (fun a q => a * max 0 (q.2 - q.1 + 1)) 1
theorem span_small (H L : Wl) (p : Int) (h : 0 ≤ p ∧ p ≤ 1000) : 0 ≤ max 0 ((spanF H L p).2 - (spanF H L p).1 + 1) ∧ max 0 ((spanF H L p).2 - (spanF H L p).1 + 1) < 4294967296 := by
  unfold spanF
  cases H <;> cases L <;> simp only [spanH, spanL] <;> (try split) <;> (try split) <;> (try split) <;> constructor <;> simp <;> omega
theorem many_loop (H L : Wl) (ρ0 ρ1 : VE) : ∀ (xs : List (Int × Int)) (a : Int) (d3 d4 : VE), (∀ q ∈ xs, 0 ≤ max 0 (q.2 - q.1 + 1) ∧ max 0 (q.2 - q.1 + 1) < 4294967296) → ∃ e3 e4, forGo (.tp (.cons (.nm 3) (.cons (.nm 4) .nil))) (sAug 2 oMul (eCall oMax (aCons (eC (.int 0)) (aCons (eOp oAdd (eOp oSub (eVar 4) (eVar 3)) (eC (.int 1))) aNil)))) (xs.map pD) [ρ0, ρ1, .sh (.int a), d3, d4] =
    .ok (.nx [ρ0, ρ1, .sh (.int (xs.foldl (fun a q => a * max 0 (q.2 - q.1 + 1)) a)), e3, e4])
  | [], a, d3, d4, _ => ⟨d3, d4, rfl⟩
  | q :: xs, a, d3, d4, h => by
    obtain ⟨e3, e4, e⟩ := many_loop H L ρ0 ρ1 xs (a * max 0 (q.2 - q.1 + 1)) (.sh (.int q.1)) (.sh (.int q.2)) (fun r hr => h r (List.mem_cons_of_mem _ hr))
    refine ⟨e3, e4, ?_⟩
    have hm : oMul (.int a) (.int (max 0 (q.2 - q.1 + 1))) = .ok (.int (a * max 0 (q.2 - q.1 + 1))) := mulR (h q List.mem_cons_self)
    rw [List.map_cons, for_cons (as := [(3, .int q.1), (4, .int q.2)]) (by simp)]
    simp [frE_cons, max_two, hm]
    exact e
theorem ev_how_many (n : Nat) (H L : Wl) (h1 : 1 ≤ n) (h2 : n ≤ 60) (hw : (okW n H && okW n L) = true) : m_how_many [.int n, Wi H L] = .ok (.int (prodF (spansF n H L))) := by
  obtain ⟨sH, sL⟩ := okW_shorts hw (by omega)
  have e1 : m_check_things [.int (n : Int)] = .ok .non := by rw [ev_things, if_pos (by omega)]
  have e2 := ev_check_wish n H L sH sL
  rw [hw, if_pos rfl] at e2
  obtain ⟨e3, e4, e⟩ := many_loop H L (.sh (.int n)) (.sh (Wi H L)) (spansF n H L) 1 .un .un (fun q hq => by
    unfold spansF at hq
    obtain ⟨p, hp, rfl⟩ := List.mem_map.mp hq
    have := mem_rgN.mp hp
    exact span_small H L p (by omega))
  unfold m_how_many runX S_how_many prodF
  simp [initS, List.replicate, e1, e2, ev_spans n H L (by omega), e]
theorem ev_keeps (xs : List Int) (H L : Wl) (hr : isRow xs = true) (hw : (okW xs.length H && okW xs.length L) = true) : m_keeps [Li xs, Wi H L] = .ok (.bl (keptF (ranksIn xs) H L)) := by
  have hl := isRow_len hr
  obtain ⟨sH, sL⟩ := okW_shorts hw (by omega)
  have e2 := ev_check_wish xs.length H L sH sL
  rw [hw, if_pos rfl] at e2
  simp [m_keeps, S_keeps, runX, initS, List.replicate, ev_check_row hr, e2, ev_is_kept xs H L (by omega)]
theorem ev_says (a b : Bool) : m__law_says [.bl a, .bl b] = .ok (.bl (a == b)) := by
  simp [m__law_says, S__law_says, runX, initS]
  cases a <;> cases b <;> rfl
end DL
/-! what bars a wish; a wish that none bars -/
namespace DL
open PySem L2
def noW (p : Int) : Wl → Bool
  | none => false
  | some xs => !decide (p ∈ xs)
def inW (p : Int) : Wl → Bool
  | none => false
  | some xs => decide (p ∈ xs)
def barP (H L : Wl) (p : Int) : Bool := if p = 0 then noW 0 H || noW 0 L else (inW p H && inW p L) || (decide (p = 1) && noW 1 H && noW 1 L)
theorem barAt_eq (H L : Wl) (p : Int) (h : 0 ≤ p) : barAt H L p = barP H L p := by
  have m1 : max (0 : Int) 1 = 1 := by decide
  have m2 : min (1 : Int) 0 = 0 := by decide
  have m3 : max (1 : Int) 1 = 1 := by decide
  have m4 : min (0 : Int) 0 = 0 := by decide
  have m5 : min (-1 : Int) 0 = -1 := by decide
  unfold barAt barP spanF
  by_cases h0 : p = 0
  · subst h0
    cases H with
    | none =>
      cases L with
      | none => simp [spanH, spanL, noW]
      | some ls => by_cases q : (0 : Int) ∈ ls <;> simp [spanH, spanL, noW, q, m1, m4]
    | some hs =>
      cases L with
      | none => by_cases q : (0 : Int) ∈ hs <;> simp [spanH, spanL, noW, q]
      | some ls => by_cases q : (0 : Int) ∈ ls <;> by_cases q2 : (0 : Int) ∈ hs <;> simp [spanH, spanL, noW, q, q2, m1, m4, m5]
  · by_cases h1 : p = 1
    · subst h1
      cases H with
      | none =>
        cases L with
        | none => simp [spanH, spanL, noW, inW]
        | some ls => by_cases q : (1 : Int) ∈ ls <;> simp [spanH, spanL, noW, inW, q, m1, m2]
      | some hs =>
        cases L with
        | none => by_cases q : (1 : Int) ∈ hs <;> simp [spanH, spanL, noW, inW, q]
        | some ls => by_cases q : (1 : Int) ∈ ls <;> by_cases q2 : (1 : Int) ∈ hs <;> simp [spanH, spanL, noW, inW, q, q2, m1, m2, m3, m4]
    · have k1 : min p 0 = 0 := by omega
      have k2 : max p 1 = p := by omega
      have k3 : min (p - 1) 0 = 0 := by omega
      have k4 : ¬ p < 0 := by omega
      have k5 : ¬ p < 1 := by omega
      have k6 : 0 < p := by omega
      have k7 : ¬ p - 1 < 0 := by omega
      have k8 : ¬ p - 1 < 1 := by omega
      cases H with
      | none =>
        cases L with
        | none => simp [spanH, spanL, noW, inW, h0, h1, k4]
        | some ls => by_cases q : p ∈ ls <;> simp [spanH, spanL, noW, inW, q, h0, h1, k1, m1, k5]
      | some hs =>
        cases L with
        | none => by_cases q : p ∈ hs <;> simp [spanH, spanL, noW, inW, q, h0, h1, k7]
        | some ls => by_cases q : p ∈ ls <;> by_cases q2 : p ∈ hs <;> simp [spanH, spanL, noW, inW, q, q2, h0, h1, k1, k2, k3, m1, k6, k8]
theorem find_rg {P : Int → Bool} : ∀ (n : Nat) (lo p : Int), lo ≤ p → p < lo + n → P p = true → (∀ q, lo ≤ q → q < p → P q = false) → (rgN lo n).find? P = some p
  | 0, lo, p, h1, h2, _, _ => by omega
  | n + 1, lo, p, h1, h2, hp, hq => by
    rw [rgN_succ, List.find?_cons]
    by_cases e : lo = p
    · subst e; rw [hp]
    · rw [hq lo (by omega) (by omega)]
      exact find_rg n (lo + 1) p (by omega) (by omega) hp fun q h3 h4 => hq q (by omega) h4
theorem find_rg_inv {P : Int → Bool} : ∀ (n : Nat) (lo p : Int), (rgN lo n).find? P = some p → lo ≤ p ∧ p < lo + n ∧ P p = true ∧ ∀ q, lo ≤ q → q < p → P q = false
  | 0, lo, p, h => by simp [rgN] at h
  | n + 1, lo, p, h => by
    rw [rgN_succ, List.find?_cons] at h
    cases hl : P lo with
    | true =>
      rw [hl] at h
      cases h
      exact ⟨by omega, by omega, hl, fun q h1 h2 => by omega⟩
    | false =>
      rw [hl] at h
      obtain ⟨a, b, c, d⟩ := find_rg_inv n (lo + 1) p h
      refine ⟨by omega, by omega, c, fun q h1 h2 => ?_⟩
      by_cases e : q = lo
      · subst e; exact hl
      · exact d q (by omega) h2
theorem find_rg_none {P : Int → Bool} {n : Nat} {lo : Int} : (rgN lo n).find? P = none ↔ ∀ q, lo ≤ q → q < lo + n → P q = false := by
  rw [List.find?_eq_none]
  constructor
  · intro h q h1 h2
    have := h q (mem_rgN.mpr ⟨h1, h2⟩)
    simpa using this
  · intro h q hq
    have := mem_rgN.mp hq
    simp [h q this.1 this.2]
theorem bar_some {n : Nat} {H L : Wl} {p : Int} (h1 : 0 ≤ p) (h2 : p < n) (h3 : barP H L p = true) (h4 : ∀ q, 0 ≤ q → q < p → barP H L q = false) : barF n H L = some p :=
  find_rg n 0 p h1 (by omega) (by rw [barAt_eq H L p h1]; exact h3) fun q a b => by rw [barAt_eq H L q a]; exact h4 q a b
theorem bar_none {n : Nat} {H L : Wl} (h : ∀ q : Int, 0 ≤ q → q < n → barP H L q = false) : barF n H L = none :=
  find_rg_none.mpr fun q a b => by rw [barAt_eq H L q a]; exact h q a (by omega)
theorem foldl_zero : ∀ (xs : List (Int × Int)), xs.foldl (fun a q => a * max 0 (q.2 - q.1 + 1)) 0 = 0
  | [] => rfl
  | q :: xs => by rw [List.foldl_cons, Int.zero_mul]; exact foldl_zero xs
theorem prod_bar {xs : List (Int × Int)} : ∀ (a : Int), (∃ q ∈ xs, q.2 < q.1) → xs.foldl (fun a q => a * max 0 (q.2 - q.1 + 1)) a = 0 := by
  induction xs with
  | nil => rintro a ⟨q, hq, _⟩; cases hq
  | cons x xs ih =>
    rintro a ⟨q, hq, hlt⟩
    rw [List.foldl_cons]
    by_cases e : x.2 < x.1
    · have : max 0 (x.2 - x.1 + 1) = 0 := by omega
      rw [this, Int.mul_zero]; exact foldl_zero xs
    · rcases List.mem_cons.mp hq with rfl | hq
      · exact absurd hlt e
      · exact ih _ ⟨q, hq, hlt⟩
theorem bar_mem {n : Nat} {H L : Wl} {p : Int} (h : barF n H L = some p) : 0 ≤ p ∧ p < n ∧ (spanF H L p).2 < (spanF H L p).1 := by
  obtain ⟨a, b, c, _⟩ := find_rg_inv n 0 p h
  refine ⟨a, by omega, ?_⟩
  unfold barAt at c
  simpa using c
theorem bar_prod {n : Nat} {H L : Wl} {p : Int} (h : barF n H L = some p) : prodF (spansF n H L) = 0 := by
  obtain ⟨a, b, c⟩ := bar_mem h
  exact prod_bar 1 ⟨spanF H L p, List.mem_map.mpr ⟨p, mem_rgN.mpr ⟨a, by omega⟩, rfl⟩, c⟩
/-- by places -/
theorem kept_iff {rs : List Int} {H L : Wl} : keptF rs H L = true ↔ ∀ (i : Nat) (r : Int), rs[i]? = some r → (spanF H L i).1 ≤ r ∧ r ≤ (spanF H L i).2 := by
  unfold keptF
  rw [List.all_eq_true]
  constructor
  · intro h i r hr
    have hi := (List.getElem?_eq_some_iff.mp hr).1
    have e : (spansF rs.length H L)[i]? = some (spanF H L i) := by
      unfold spansF
      rw [List.getElem?_map]
      have : (rgN 0 rs.length)[i]? = some (i : Int) := by
        unfold rgN
        rw [List.getElem?_map, List.getElem?_range hi]
        simp
      rw [this]; rfl
    have := h (r, spanF H L i) (List.mem_of_getElem? (i := i) (by rw [List.getElem?_zip_eq_some]; exact ⟨hr, e⟩))
    simpa using this
  · rintro h ⟨r, ab⟩ hq
    obtain ⟨i, hi⟩ := List.mem_iff_getElem?.mp hq
    rw [List.getElem?_zip_eq_some] at hi
    obtain ⟨h1, h2⟩ := hi
    unfold spansF at h2
    rw [List.getElem?_map] at h2
    cases hg : (rgN 0 rs.length)[i]? with
    | none => rw [hg] at h2; cases h2
    | some x =>
      rw [hg] at h2
      obtain ⟨_, rfl⟩ := rgN_get hg
      simp only [Option.map_some, Option.some.injEq] at h2
      subst h2
      have := h i r h1
      rw [show (0 : Int) + (i : Int) = i by omega]
      simpa using this
theorem bar_kept {n : Nat} {H L : Wl} {p : Int} (h : barF n H L = some p) {rs : List Int} (hl : rs.length = n) : keptF rs H L = false := by
  obtain ⟨a, b, c⟩ := bar_mem h
  cases hk : keptF rs H L with
  | false => rfl
  | true =>
    have hi : p.toNat < rs.length := by omega
    have := kept_iff.mp hk p.toNat rs[p.toNat] (List.getElem?_eq_getElem hi)
    rw [show ((p.toNat : Nat) : Int) = p by omega] at this
    omega
/-! a wish that none bars -/
theorem span_low (H L : Wl) (p : Int) (h : 0 ≤ p) : 0 ≤ (spanF H L p).1 ∧ (spanF H L p).2 ≤ p := by
  unfold spanF
  cases H <;> cases L <;> simp only [spanH, spanL] <;> (try split) <;> (try split) <;> (try split) <;> constructor <;> simp <;> omega
theorem nobar_at {n : Nat} {H L : Wl} (h : barF n H L = none) (i : Nat) (hi : i < n) : (spanF H L i).1 ≤ (spanF H L i).2 := by
  have := find_rg_none.mp h i (by omega) (by omega)
  unfold barAt at this
  simpa using this
theorem mosts_get {n : Nat} {H L : Wl} {i : Nat} {r : Int} (h : (mosts n H L)[i]? = some r) : i < n ∧ r = (spanF H L i).2 := by
  unfold mosts spansF at h
  rw [List.getElem?_map, List.getElem?_map] at h
  cases hg : (rgN 0 n)[i]? with
  | none => rw [hg] at h; cases h
  | some x =>
    rw [hg] at h
    obtain ⟨hi, rfl⟩ := rgN_get hg
    simp only [Option.map_some, Option.some.injEq] at h
    rw [show (0 : Int) + (i : Int) = i by omega] at h
    exact ⟨hi, h.symm⟩
theorem mosts_len (n : Nat) (H L : Wl) : (mosts n H L).length = n := by unfold mosts; rw [List.length_map, spansF_len]
theorem mosts_valid {n : Nat} {H L : Wl} (h : barF n H L = none) : Valid (mosts n H L) := fun i r hr => by
  obtain ⟨hi, rfl⟩ := mosts_get hr
  have a := nobar_at h i hi
  have b := span_low H L i (by omega)
  omega
theorem mosts_kept {n : Nat} {H L : Wl} (h : barF n H L = none) : keptF (mosts n H L) H L = true := kept_iff.mpr fun i r hr => by
  obtain ⟨hi, rfl⟩ := mosts_get hr
  have a := nobar_at h i hi
  omega
theorem nobar_can {n : Nat} {H L : Wl} (h1 : 1 ≤ n) (h2 : n ≤ 60) (h : barF n H L = none) : (isRow (rowBy (mosts n H L)) && (decide ((rowBy (mosts n H L)).length = n) && keptF (ranksIn (rowBy (mosts n H L))) H L)) = true := by
  have v := mosts_valid h
  rw [ranks_rowBy _ v, mosts_kept h, isRow_of v (by rw [mosts_len]; exact h1) (by rw [mosts_len]; exact h2), rowBy_len, mosts_len]
  simp
end DL
/-! evaluating objects' meanings -/
namespace DL
open PySem L2
def altR : R D → R D → R D
  | .bad, r => r
  | r, _ => r
section
variable {ρ : DL.Env} {f g : DL.Env → R D} {fs : DL.Env → R (List D)}
@[simp] theorem ap_Alt : eAlt f g ρ = altR (f ρ) (g ρ) := by unfold eAlt altR; cases f ρ <;> rfl
@[simp] theorem altR_bad (r : R D) : altR .bad r = r := id rfl
@[simp] theorem altR_ok (d : D) (r : R D) : altR (.ok d) r = .ok d := id rfl
@[simp] theorem altR_err (c : Str) (r : R D) : altR (.err c) r = .err c := id rfl
@[simp] theorem ap_Meth (c m : Str) (n : Nat) (q : List D → R D) : eMeth c m n q f fs ρ = (f ρ).bind fun x => (isObj c m x).bind fun _ => (fs ρ).bind fun ds => callF n q (x :: ds) := id rfl
end
theorem isObj_yes {c m : Str} {ns : List Str} {ds : List D} (h : m ∉ ns) : isObj c m (.obj c ns ds) = .ok () := by unfold isObj; simp [h]
theorem isObj_no {c c' m : Str} {ns : List Str} {ds : List D} (h : ¬ c' = c) : isObj c m (.obj c' ns ds) = .bad := by unfold isObj; simp [h]
@[simp] theorem sh_cc (r : List Int) : isObj "Can" "shows" (canD r) = .ok () := isObj_yes (by decide)
@[simp] theorem sh_cn (p : Int) : isObj "Can" "shows" (neverD p) = .bad := isObj_no (by decide)
@[simp] theorem sh_nc (r : List Int) : isObj "Never" "shows" (canD r) = .bad := isObj_no (by decide)
@[simp] theorem sh_nn (p : Int) : isObj "Never" "shows" (neverD p) = .ok () := isObj_yes (by decide)
theorem isO_at {cs : List (Str × Bool)} {c : Str} {b : Bool} {ns : List Str} {ds : List D} (h : cs.lookup c = some b) : oIsO cs (.obj c ns ds) = .ok (.bl b) := by simp only [oIsO, h]
@[simp] theorem oNe_nn (a b : Int) : oNe (.int a) (.int b) = .ok (.bl (!decide (a = b))) := oNe_int a b
/-- list(range(n)) -/
theorem range_nat (n : Nat) (h : n ≤ 1000) : oRange (.int 0) (.int (n : Int)) = .ok ((rgN 0 n).map D.int) := by
  rw [range_ok ⟨by omega, by omega, by omega, by omega⟩, rgI_eq]
  simp
theorem rgN_sorted (lo : Int) (n : Nat) : (rgN lo n).Pairwise (· ≤ ·) := by
  unfold rgN
  refine List.pairwise_map.mpr (List.Pairwise.imp ?_ List.pairwise_lt_range)
  intro a b hab; omega
theorem isRow_rg (n : Nat) (h1 : 1 ≤ n) (h2 : n ≤ 60) : isRow (rgN 0 n) = true := by
  unfold isRow
  rw [rgN_len, Bool.and_eq_true, decide_eq_true_eq, decide_eq_true_eq]
  exact ⟨⟨h1, h2⟩, (sort_uniq (List.Perm.refl _) (rgN_sorted 0 n)).symm⟩
theorem for_step {tg : Tg} {S : SEnv → R Out} {d : D} {r : List D} {as : List (Nat × D)} {σ σ' : SEnv} (h : tgB tg d = some as) (hs : S (setS σ as) = .ok (.nx σ')) : forGo tg S (d :: r) σ = forGo tg S r σ' := by rw [for_cons h, hs]; rfl
theorem for_ret {tg : Tg} {S : SEnv → R Out} {d v : D} {r : List D} {as : List (Nat × D)} {σ : SEnv} (h : tgB tg d = some as) (hs : S (setS σ as) = .ok (.rt v)) : forGo tg S (d :: r) σ = .ok (.rt v) := by rw [for_cons h, hs]; rfl
@[simp] theorem is_bl (a b : Bool) : oIs (.bl a) (.bl b) = .ok (.bl (decide (a = b))) := id rfl
@[simp] theorem isn_bl (a b : Bool) : oIsNot (.bl a) (.bl b) = .ok (.bl (!decide (a = b))) := id rfl
@[simp] theorem is_tup (d : List D) : oIs (.tup d) .non = .ok (.bl false) := id rfl
@[simp] theorem isn_tup (d : List D) : oIsNot (.tup d) .non = .ok (.bl true) := id rfl
@[simp] theorem is_obj (c : Str) (ns : List Str) (d : List D) : oIs (.obj c ns d) .non = .ok (.bl false) := id rfl
@[simp] theorem isn_obj (c : Str) (ns : List Str) (d : List D) : oIsNot (.obj c ns d) .non = .ok (.bl true) := id rfl
end DL
/-! rows changed -/
namespace DL
open PySem L2
def T_exchanged_1 : SEnv → R Out :=
  (sRetN (eOpN oCat (eNew (eOpN oCat (eNew (eSl (eVar 0) pNo (pSome (eVar 1)))) (eNew (eLst (aCons (eOp oIx (eVar 0) (eOp oAdd (eVar 1) (eC (.int 1)))) (aCons (eOp oIx (eVar 0) (eVar 1)) aNil)))))) (eNew (eSl (eVar 0) (pSome (eOp oAdd (eVar 1) (eC (.int 2)))) pNo))))
def T_exchanged_2 : SEnv → R Out :=
  (sSeq (sIf (bNot (bE (eCall (callF 3 m_is_between) (aCons (eVar 1) (aCons (eC (.int 0)) (aCons (eOp oSub (eCall oLen (aCons (eVar 0) aNil)) (eC (.int 2))) aNil))))))
  (sRaise "BadPlace")
  sNext)
  T_exchanged_1)
def S_exchanged : SEnv → R Out :=
  (sSeq (sExpr (eCall (callF 1 m_check_row) (aCons (eVar 0) aNil)))
  T_exchanged_2)
def m_exchanged : List D → R (List D) := runN 2 S_exchanged
def T_turned_1 : SEnv → R Out :=
  (sRetN (eLc (iOf (eVar 0)) (.nm 1) bYes (eOp oSub (eOp oSub (eCall oLen (aCons (eVar 0) aNil)) (eC (.int 1))) (eVar 1)) [1]))
def S_turned : SEnv → R Out :=
  (sSeq (sExpr (eCall (callF 1 m_check_row) (aCons (eVar 0) aNil)))
  T_turned_1)
def m_turned : List D → R (List D) := runN 2 S_turned
def S_mirrored : SEnv → R Out :=
  (sSeq (sExpr (eCall (callF 1 m_check_row) (aCons (eVar 0) aNil)))
  (sRetN (eUnN oRev (eVar 0))))
def m_mirrored : List D → R (List D) := runN 1 S_mirrored
def T_told_back_1 : SEnv → R Out :=
  (sRetN (eLc (eCallN rg1 (aCons (eCall oLen (aCons (eVar 0) aNil)) aNil)) (.nm 1) bYes (eL1 oIndex (eVar 0) (eVar 1)) [1]))
def S_told_back : SEnv → R Out :=
  (sSeq (sExpr (eCall (callF 1 m_check_row) (aCons (eVar 0) aNil)))
  T_told_back_1)
def m_told_back : List D → R (List D) := runN 2 S_told_back

/-! ### evaluation -/
def turnF (xs : List Int) : List Int := xs.map fun x => (xs.length : Int) - 1 - x
theorem ev_turned {xs : List Int} (h : isRow xs = true) : m_turned [Li xs] = .ok ((turnF xs).map D.int) := by
  have hl := isRow_len h
  have h0 : xs.length ≤ 100000 := by omega
  have h5 : lcGo (.nm 1) bYes (eOp oSub (eOp oSub (eCall oLen (aCons (eVar 0) aNil)) (eC (.int 1))) (eVar 1)) [some (Li xs), none] (xs.map D.int) = .ok (xs.map fun x => .int ((xs.length : Int) - 1 - x)) := lc_all (g := fun x => .int ((xs.length : Int) - 1 - x)) fun x _ => by simp
  simp [m_turned, S_turned, T_turned_1, runN, initS, List.replicate, ev_check_row h, h5, h0, turnF]
theorem rev_lst (ds : List D) : oRev (.lst ds) = .ok ds.reverse := rfl
theorem ev_mirrored {xs : List Int} (h : isRow xs = true) : m_mirrored [Li xs] = .ok (xs.reverse.map D.int) := by
  simp [m_mirrored, S_mirrored, runN, initS, List.replicate, ev_check_row h, rev_lst]
def idxI (xs : List Int) (k : Int) : Nat := match xs with
  | [] => 0
  | x :: r => if x = k then 0 else idxI r k + 1
theorem ixF_ints (k : Int) : ∀ (xs : List Int), k ∈ xs → ixF (xs.map D.int) (.int k) = some (idxI xs k)
  | [], h => by cases h
  | x :: xs, h => by
    rw [List.map_cons]
    unfold ixF idxI
    by_cases e : x = k
    · subst e; simp [eqF]
    · have e' : eqF (.int x) (.int k) = false := by simp [eqF, e]
      have hm : k ∈ xs := by
        rcases List.mem_cons.mp h with q | q
        · exact absurd q.symm e
        · exact q
      rw [ixF_ints k xs hm]
      simp [e', e]
theorem index_ints {k : Int} {xs : List Int} (h : k ∈ xs) : oIndex (xs.map D.int) (.int k) = .ok (.int (idxI xs k)) := by
  unfold oIndex
  rw [if_pos ⟨rfl, flats_ints xs⟩, ixF_ints k xs h]
@[simp] theorem ap_L1 (o : List D → D → R D) (f g : DL.Env → R D) (ρ : DL.Env) : eL1 o f g ρ = (f ρ).bind fun x => (asL x).bind fun ds => (g ρ).bind fun y => o ds y := id rfl
@[simp] theorem asL_lst (ds : List D) : asL (.lst ds) = .ok ds := id rfl
def backF (xs : List Int) : List Int := (rgN 0 xs.length).map fun k => ((idxI xs k : Nat) : Int)
theorem isRow_perm {xs : List Int} (h : isRow xs = true) : xs.Perm (rgN 0 xs.length) := by
  unfold isRow at h
  rw [Bool.and_eq_true, decide_eq_true_eq, decide_eq_true_eq] at h
  have := isort_perm xs
  rw [h.2] at this
  exact this.symm
theorem isRow_mk {xs : List Int} (h1 : 1 ≤ xs.length) (h2 : xs.length ≤ 60) (p : xs.Perm (rgN 0 xs.length)) : isRow xs = true := by
  unfold isRow
  rw [Bool.and_eq_true, decide_eq_true_eq, decide_eq_true_eq]
  exact ⟨⟨h1, h2⟩, (sort_uniq p.symm (rgN_sorted 0 _)).symm⟩
theorem isRow_nodup {xs : List Int} (h : isRow xs = true) : xs.Nodup := (isRow_perm h).nodup_iff.mpr (rgN_nodup 0 _)
theorem ev_told_back {xs : List Int} (h : isRow xs = true) : m_told_back [Li xs] = .ok ((backF xs).map D.int) := by
  have hl := isRow_len h
  have hp := isRow_perm h
  have h1 : -1000000 ≤ (xs.length : Int) ∧ (xs.length : Int) ≤ 1000000 := by omega
  have h0 : xs.length ≤ 100000 := by omega
  have h5 : lcGo (.nm 1) bYes (eL1 oIndex (eVar 0) (eVar 1)) [some (Li xs), none] ((rgN 0 xs.length).map D.int) = .ok ((rgN 0 xs.length).map fun k => .int ((idxI xs k : Nat) : Int)) := lc_all (g := fun k => .int ((idxI xs k : Nat) : Int)) fun k hk => by
    have : k ∈ xs := hp.mem_iff.mpr hk
    simp [index_ints this]
  simp [m_told_back, S_told_back, T_told_back_1, runN, initS, List.replicate, ev_check_row h, rg1_ok h1, h5, rgN_len, h0, backF]
/-! a place with one behind it: l ++ a :: b :: r -/
theorem split2 {xs : List Int} {p : Nat} (h : p + 1 < xs.length) : xs = xs.take p ++ xs[p] :: xs[p + 1] :: xs.drop (p + 2) := by
  have e1 : xs.drop p = xs[p] :: xs.drop (p + 1) := List.drop_eq_getElem_cons (by omega)
  have e2 : xs.drop (p + 1) = xs[p + 1] :: xs.drop (p + 2) := List.drop_eq_getElem_cons h
  rw [← e2, ← e1, List.take_append_drop]
def exchF (xs : List Int) (p : Nat) : List Int := xs.take p ++ (xs.getD (p + 1) 0) :: (xs.getD p 0) :: xs.drop (p + 2)
theorem cut_drop {α : Type} (xs : List α) (k : Nat) : cutD xs (some (k : Int)) none = xs.drop k := by
  unfold cutD
  rw [HT.sIx_none, show HT.sIx xs.length 0 (some (k : Int)) = min k xs.length from HT.sIx_nat xs.length 0 k]
  rcases Nat.le_total k xs.length with h | h
  · rw [Nat.min_eq_left h]
    exact List.take_of_length_le (by rw [List.length_drop]; omega)
  · rw [Nat.min_eq_right h, List.drop_of_length_le h, List.drop_length]
    simp
theorem cut_drop2 {α : Type} (xs : List α) (k : Nat) : cutD xs (some ((k : Int) + 2)) none = xs.drop (k + 2) := cut_drop xs (k + 2)
theorem ix_ints {xs : List Int} {k : Nat} (h : k < xs.length) : oIx (.lst (xs.map D.int)) (.int (k : Int)) = .ok (.int xs[k]) := by
  refine ix_lst ?_
  rw [atI_of (by simpa using h), List.getElem_map]
theorem ev_exchanged {xs : List Int} (h : isRow xs = true) {p : Nat} (hp : p + 1 < xs.length) : m_exchanged [Li xs, .int p] = .ok ((exchF xs p).map D.int) := by
  have hl := isRow_len h
  have b1 : (p : Int) ≤ (xs.length : Int) - 2 := by omega
  have b0 : (0 : Int) ≤ (p : Int) := by omega
  have i1 : oIx (.lst (xs.map D.int)) (.int ((p : Int) + 1)) = .ok (.int xs[p + 1]) := ix_ints (k := p + 1) hp
  have i0 : oIx (.lst (xs.map D.int)) (.int (p : Int)) = .ok (.int xs[p]) := ix_ints (k := p) (by omega)
  have g1 : xs.getD (p + 1) 0 = xs[p + 1] := by simp [List.getD, hp]
  have g0 : xs.getD p 0 = xs[p] := by simp [List.getD, show p < xs.length by omega]
  have c1 : oCat (.lst (List.take p (xs.map D.int))) (.lst [.int xs[p + 1], .int xs[p]]) = .ok (List.take p (xs.map D.int) ++ [.int xs[p + 1], .int xs[p]]) := cat_ok (by simp; omega)
  have c2 : oCat (.lst (List.take p (xs.map D.int) ++ [.int xs[p + 1], .int xs[p]])) (.lst (List.drop (p + 2) (xs.map D.int))) = .ok (List.take p (xs.map D.int) ++ [.int xs[p + 1], .int xs[p]] ++ List.drop (p + 2) (xs.map D.int)) := cat_ok (by simp; omega)
  simp only [m_exchanged, S_exchanged, T_exchanged_2, T_exchanged_1, runN, initS, List.replicate, ap_Seq, ap_sExpr, ap_Call, ap_aCons, ap_aNil, List.map_cons, List.map_nil, List.cons_append, List.nil_append, List.length_cons, List.length_nil, Nat.reduceAdd, Nat.reduceSub, frE_sh, frE_nil, var_0, var_s, R.bind_ok, callF_1, ev_check_row h, ap_thenNx, ap_sIf, ap_bNot, ap_bE, ap_Op, ap_C, len_lst, List.length_map, sub_int, callF_3, ev_between, b0, b1, decide_true, Bool.and_true, ap_asB, Bool.not_true, Bool.false_eq_true, if_false, ap_sNext, ap_sRetN, ap_OpN, ap_New, ap_Sl, ap_pNo, ap_pSome, ap_asI, sl_lst, cut_take, R.map_ok, ap_Lst, add_int, i1, i0, if_true, Nat.reduceLeDiff, c1, cut_drop2, c2, ap_outN]
  have hp0 : p < xs.length := by omega
  simp [exchF, hp, hp0]
/-! ### inversions by lists -/
def invL : List Int → Nat
  | [] => 0
  | x :: xs => (xs.countP fun y => decide (y < x)) + invL xs
def ascL : List Int → Nat
  | [] => 0
  | x :: xs => (xs.countP fun y => decide (x < y)) + ascL xs
def crossL (l m : List Int) : Nat := match l with
  | [] => 0
  | x :: l => (m.countP fun y => decide (y < x)) + crossL l m
theorem invL_cons (x : Int) (xs : List Int) : invL (x :: xs) = (xs.countP fun y => decide (y < x)) + invL xs := rfl
theorem ascL_cons (x : Int) (xs : List Int) : ascL (x :: xs) = (xs.countP fun y => decide (x < y)) + ascL xs := rfl
theorem crossL_cons (x : Int) (l m : List Int) : crossL (x :: l) m = (m.countP fun y => decide (y < x)) + crossL l m := rfl
theorem invL_append : ∀ l m : List Int, invL (l ++ m) = invL l + invL m + crossL l m
  | [], m => by simp [invL, crossL]
  | x :: l, m => by
    rw [List.cons_append, invL_cons, invL_cons, crossL_cons, invL_append l m, List.countP_append]
    omega
theorem crossL_perm {m m' : List Int} (p : m.Perm m') : ∀ l : List Int, crossL l m = crossL l m'
  | [] => rfl
  | x :: l => by rw [crossL_cons, crossL_cons, crossL_perm p l, p.countP_eq]
theorem cross_one (x : Int) : ∀ l : List Int, crossL l [x] = l.countP fun y => decide (x < y)
  | [] => rfl
  | y :: l => by
    rw [crossL_cons, cross_one x l, List.countP_cons]
    by_cases h : x < y <;> simp [h] <;> omega
theorem invL_snoc (l : List Int) (x : Int) : invL (l ++ [x]) = invL l + l.countP fun y => decide (x < y) := by
  rw [invL_append, cross_one]; simp [invL]
theorem invRow_snoc (xs : List Int) (x : Int) : invRow (xs ++ [x]) = invRow xs + ((xs.countP fun y => decide (x < y) : Nat) : Int) := by
  unfold invRow
  rw [zipIdx_snoc, List.map_append, List.sum_append]
  congr 1
  · congr 1
    apply List.map_congr_left
    intro p hp
    have := (mem_zipIdx_lt hp).1
    rw [List.take_append_of_le_length (by omega)]
  · simp [List.countP_eq_length_filter]
theorem inv_list : ∀ xs, invRow xs = (invL xs : Int) := by
  apply snoc_ind
  · rfl
  · intro xs x ih
    rw [invRow_snoc, invL_snoc, ih]
    omega
theorem asc_inv : ∀ {xs : List Int}, xs.Nodup → ascL xs + invL xs = xs.length * (xs.length - 1) / 2
  | [], _ => rfl
  | x :: xs, h => by
    have h' := List.nodup_cons.mp h
    have ih := asc_inv h'.2
    have e : (xs.countP fun y => decide (x < y)) + (xs.countP fun y => decide (y < x)) = xs.length := by
      have := List.length_eq_countP_add_countP (fun y => decide (x < y)) (l := xs)
      have e2 : List.countP (fun a => decide ¬(decide (x < a) = true)) xs = List.countP (fun y => decide (y < x)) xs := by
        apply List.countP_congr
        intro y hy
        have ne : y ≠ x := fun z => h'.1 (z ▸ hy)
        simp; omega
      rw [e2] at this
      exact this.symm
    rw [ascL_cons, invL_cons, List.length_cons]
    have k : (xs.length + 1) * (xs.length + 1 - 1) / 2 = xs.length * (xs.length - 1) / 2 + xs.length := by
      cases hn : xs.length with
      | zero => rfl
      | succ n =>
        have : (n + 1 + 1) * (n + 1 + 1 - 1) = (n + 1) * (n + 1 - 1) + 2 * (n + 1) := by
          simp only [Nat.add_sub_cancel]
          rw [show n + 1 + 1 = n + 2 by omega, Nat.add_mul, Nat.mul_comm n (n + 1)]
        rw [this, Nat.add_mul_div_left _ _ (by decide)]
    omega
theorem inv_anti {f : Int → Int} (hf : ∀ x y, f x < f y ↔ y < x) : ∀ xs : List Int, invL (xs.map f) = ascL xs
  | [] => rfl
  | x :: xs => by
    rw [List.map_cons, invL_cons, ascL_cons, inv_anti hf xs, List.countP_map]
    congr 1
    apply List.countP_congr
    intro y _
    simp [hf]
theorem inv_rev : ∀ xs : List Int, invL xs.reverse = ascL xs
  | [] => rfl
  | x :: xs => by
    rw [List.reverse_cons, invL_snoc, inv_rev xs, ascL_cons, List.countP_reverse]
    omega
/-! the row of places: as many inversions -/
def pairN (P : List (Int × Int)) : Nat := (P.map fun p => P.countP fun q => decide (p.1 < q.1 ∧ q.2 < p.2)).sum
theorem sum_perm {a b : List Nat} (p : a.Perm b) : a.sum = b.sum := by
  induction p with
  | nil => rfl
  | cons x _ ih => simp [ih]
  | swap x y l => simp; omega
  | trans _ _ h1 h2 => exact h1.trans h2
theorem pairN_perm {P P' : List (Int × Int)} (h : P.Perm P') : pairN P = pairN P' := by
  unfold pairN
  refine (sum_perm (h.map _)).trans ?_
  congr 1
  apply List.map_congr_left
  intro p _
  exact h.countP_eq _
theorem sum_swap {α β : Type} (r : α → β → Bool) (B : List β) : ∀ A : List α, (A.map fun p => B.countP fun q => r p q).sum = (B.map fun q => A.countP fun p => r p q).sum
  | [] => by
    simp only [List.map_nil, List.sum_nil, List.countP_nil]
    induction B with
    | nil => rfl
    | cons b B ih => simp [← ih]
  | p :: A => by
    rw [List.map_cons, List.sum_cons, sum_swap r B A]
    clear sum_swap
    induction B with
    | nil => rfl
    | cons b B ih =>
      simp only [List.countP_cons, List.map_cons, List.sum_cons] at ih ⊢
      omega
theorem pairN_swap (P : List (Int × Int)) : pairN (P.map fun p => (p.2, p.1)) = pairN P := by
  unfold pairN
  rw [List.map_map]
  have e : ((fun p : Int × Int => List.countP (fun q => decide (p.1 < q.1 ∧ q.2 < p.2)) (P.map fun p => (p.2, p.1))) ∘ fun p => (p.2, p.1)) = fun p : Int × Int => List.countP (fun q : Int × Int => decide (p.2 < q.2 ∧ q.1 < p.1)) P := by
    funext p
    simp only [Function.comp, List.countP_map]
    rfl
  rw [e, sum_swap (fun p q : Int × Int => decide (p.2 < q.2 ∧ q.1 < p.1)) P P]
  congr 1
  apply List.map_congr_left
  intro p _
  apply List.countP_congr
  intro q _
  simp [and_comm]
/-- places from lo on -/
def placed (lo : Int) : List Int → List (Int × Int)
  | [] => []
  | x :: xs => (lo, x) :: placed (lo + 1) xs
theorem placed_ge : ∀ (xs : List Int) (lo : Int) (q : Int × Int), q ∈ placed lo xs → lo ≤ q.1
  | [], lo, q, h => by cases h
  | x :: xs, lo, q, h => by
    unfold placed at h
    rcases List.mem_cons.mp h with rfl | h
    · exact Int.le_refl _
    · have := placed_ge xs (lo + 1) q h; omega
theorem placed_count (P : Int → Bool) : ∀ (xs : List Int) (lo : Int), ((placed lo xs).countP fun q => P q.2) = xs.countP P
  | [], lo => rfl
  | x :: xs, lo => by
    unfold placed
    rw [List.countP_cons, List.countP_cons, placed_count P xs (lo + 1)]
theorem placed_inv : ∀ (xs : List Int) (lo : Int), pairN (placed lo xs) = invL xs
  | [], lo => rfl
  | x :: xs, lo => by
    have ih := placed_inv xs (lo + 1)
    unfold pairN at ih ⊢
    unfold placed
    rw [invL_cons, List.map_cons, List.sum_cons]
    have e1 : (((lo, x) :: placed (lo + 1) xs).countP fun q : Int × Int => decide ((lo, x).1 < q.1 ∧ q.2 < (lo, x).2)) = xs.countP fun y => decide (y < x) := by
      rw [List.countP_cons]
      have : ((placed (lo + 1) xs).countP fun q : Int × Int => decide ((lo, x).1 < q.1 ∧ q.2 < (lo, x).2)) = (placed (lo + 1) xs).countP fun q => decide (q.2 < x) := by
        apply List.countP_congr
        intro q hq
        have := placed_ge xs (lo + 1) q hq
        simp; omega
      rw [this, placed_count (fun y => decide (y < x)) xs (lo + 1)]
      simp
    have e2 : ((placed (lo + 1) xs).map fun p : Int × Int => ((lo, x) :: placed (lo + 1) xs).countP fun q => decide (p.1 < q.1 ∧ q.2 < p.2)) = (placed (lo + 1) xs).map fun p => (placed (lo + 1) xs).countP fun q => decide (p.1 < q.1 ∧ q.2 < p.2) := by
      apply List.map_congr_left
      intro p hp
      have := placed_ge xs (lo + 1) p hp
      rw [List.countP_cons]
      have : ¬ (p.1 < lo ∧ x < p.2) := by omega
      simp [this]
    rw [e1, e2, ih]
theorem placed_map (f : Int → Int) : ∀ (n : Nat) (lo : Int), placed lo ((rgN lo n).map f) = (rgN lo n).map fun k => (k, f k)
  | 0, lo => rfl
  | n + 1, lo => by
    rw [rgN_succ, List.map_cons, List.map_cons]
    unfold placed
    rw [placed_map f n (lo + 1)]
theorem idx_get : ∀ {xs : List Int} {i : Nat} (h : i < xs.length), xs.Nodup → idxI xs xs[i] = i
  | [], i, h, _ => by cases h
  | x :: xs, 0, h, _ => by simp [idxI]
  | x :: xs, i + 1, h, hn => by
    have hn' := List.nodup_cons.mp hn
    have hi : i < xs.length := by simpa using h
    have ne : ¬ x = xs[i] := fun z => hn'.1 (z ▸ List.getElem_mem hi)
    rw [List.getElem_cons_succ]
    unfold idxI
    rw [if_neg ne, idx_get hi hn'.2]
theorem placed_eq : ∀ (xs : List Int) (lo : Int) (f : Int → Int), (∀ (i : Nat) (h : i < xs.length), f xs[i] = lo + i) → placed lo xs = xs.map fun v => (f v, v)
  | [], lo, f, _ => rfl
  | x :: xs, lo, f, h => by
    unfold placed
    have h0 := h 0 (by simp)
    simp only [List.getElem_cons_zero] at h0
    rw [placed_eq xs (lo + 1) f (fun i hi => by
      have := h (i + 1) (by simpa using hi)
      simp only [List.getElem_cons_succ] at this
      omega), List.map_cons, h0]
    simp
theorem inv_back {xs : List Int} (h : isRow xs = true) : invL (backF xs) = invL xs := by
  have hn := isRow_nodup h
  have hp := isRow_perm h
  rw [← placed_inv xs 0, ← placed_inv (backF xs) 0]
  unfold backF
  rw [placed_map, placed_eq xs 0 (fun v => ((idxI xs v : Nat) : Int)) (fun i hi => by rw [idx_get hi hn]; omega), ← pairN_swap]
  rw [List.map_map]
  exact pairN_perm (hp.symm.map _)
end DL
/-! rows changed: what holds of them -/
namespace DL
open PySem L2
theorem turnF_len (xs : List Int) : (turnF xs).length = xs.length := by simp [turnF]
theorem backF_len (xs : List Int) : (backF xs).length = xs.length := by simp [backF, rgN_len]
theorem exchF_len {xs : List Int} {p : Nat} (h : p + 1 < xs.length) : (exchF xs p).length = xs.length := by
  unfold exchF
  simp only [List.length_append, List.length_take, List.length_cons, List.length_drop]
  omega
theorem rg_anti (n : Nat) : (rgN 0 n).map (fun x => (n : Int) - 1 - x) = (rgN 0 n).reverse := by
  apply List.ext_getElem?
  intro i
  by_cases h : i < n
  · rw [List.getElem?_map, List.getElem?_reverse (by rw [rgN_len]; exact h), rgN_len]
    unfold rgN
    rw [List.getElem?_map, List.getElem?_map, List.getElem?_range h, List.getElem?_range (by omega)]
    simp only [Option.map_some, Option.some.injEq]
    omega
  · rw [List.getElem?_eq_none (by rw [List.length_map, rgN_len]; omega), List.getElem?_eq_none (by rw [List.length_reverse, rgN_len]; omega)]
theorem turn_row {xs : List Int} (h : isRow xs = true) : isRow (turnF xs) = true := by
  have hl := isRow_len h
  refine isRow_mk (by rw [turnF_len]; exact hl.1) (by rw [turnF_len]; exact hl.2) ?_
  rw [turnF_len]
  unfold turnF
  have p := (isRow_perm h).map (fun x => (xs.length : Int) - 1 - x)
  rw [rg_anti] at p
  exact p.trans (List.reverse_perm _)
theorem rev_row {xs : List Int} (h : isRow xs = true) : isRow xs.reverse = true := by
  have hl := isRow_len h
  refine isRow_mk (by rw [List.length_reverse]; exact hl.1) (by rw [List.length_reverse]; exact hl.2) ?_
  rw [List.length_reverse]
  exact (List.reverse_perm xs).trans (isRow_perm h)
theorem map_idx {xs : List Int} (hn : xs.Nodup) : xs.map (fun v => ((idxI xs v : Nat) : Int)) = rgN 0 xs.length := by
  apply List.ext_getElem?
  intro i
  rw [List.getElem?_map]
  by_cases h : i < xs.length
  · rw [List.getElem?_eq_getElem h]
    unfold rgN
    rw [List.getElem?_map, List.getElem?_range h]
    simp [idx_get h hn]
  · rw [List.getElem?_eq_none (by omega), List.getElem?_eq_none (by rw [rgN_len]; omega)]
    rfl
theorem back_row {xs : List Int} (h : isRow xs = true) : isRow (backF xs) = true := by
  have hl := isRow_len h
  refine isRow_mk (by rw [backF_len]; exact hl.1) (by rw [backF_len]; exact hl.2) ?_
  rw [backF_len]
  have p := (isRow_perm h).map (fun v => ((idxI xs v : Nat) : Int))
  rw [map_idx (isRow_nodup h)] at p
  exact p.symm
theorem exch_perm {xs : List Int} {p : Nat} (h : p + 1 < xs.length) : (exchF xs p).Perm xs := by
  have e := split2 h
  have hp : p < xs.length := by omega
  unfold exchF
  have g1 : xs.getD (p + 1) 0 = xs[p + 1] := by simp [List.getD, h]
  have g0 : xs.getD p 0 = xs[p] := by simp [List.getD, hp]
  rw [g1, g0]
  refine List.Perm.trans ?_ (List.Perm.of_eq e.symm)
  exact (List.Perm.swap _ _ _).append_left _
theorem exch_row {xs : List Int} {p : Nat} (hr : isRow xs = true) (h : p + 1 < xs.length) : isRow (exchF xs p) = true := by
  have hl := isRow_len hr
  refine isRow_mk (by rw [exchF_len h]; exact hl.1) (by rw [exchF_len h]; exact hl.2) ?_
  rw [exchF_len h]
  exact (exch_perm h).trans (isRow_perm hr)
theorem turn_turn {xs : List Int} : turnF (turnF xs) = xs := by
  unfold turnF
  rw [List.map_map, List.length_map]
  conv => rhs; rw [← List.map_id xs]
  apply List.map_congr_left
  intro x _
  show (xs.length : Int) - 1 - ((xs.length : Int) - 1 - x) = x
  omega
theorem back_get {xs : List Int} (h : isRow xs = true) {k : Nat} (hk : k < xs.length) : ∃ hb : xs[k].toNat < (backF xs).length, (backF xs)[xs[k].toNat] = (k : Int) ∧ 0 ≤ xs[k] ∧ xs[k] < xs.length := by
  have hn := isRow_nodup h
  have m := mem_rgN.mp ((isRow_perm h).mem_iff.mp (List.getElem_mem hk))
  have hb : xs[k].toNat < (backF xs).length := by rw [backF_len]; omega
  refine ⟨hb, ?_, m.1, by omega⟩
  have e : (rgN 0 xs.length)[xs[k].toNat]? = some xs[k] := by
    unfold rgN
    rw [List.getElem?_map, List.getElem?_range (by omega)]
    simp only [Option.map_some, Option.some.injEq]
    omega
  have e2 : (backF xs)[xs[k].toNat]? = some (k : Int) := by
    unfold backF
    rw [List.getElem?_map, e, Option.map_some, idx_get hk hn]
  have e3 := List.getElem?_eq_getElem hb
  rw [e2] at e3
  exact (Option.some.inj e3).symm
theorem back_back {xs : List Int} (h : isRow xs = true) : backF (backF xs) = xs := by
  have hb := back_row h
  apply List.ext_getElem
  · rw [backF_len, backF_len]
  · intro k h1 h2
    obtain ⟨hq, e, m1, m2⟩ := back_get h h2
    have : backF (backF xs) = (rgN 0 (backF xs).length).map fun k => ((idxI (backF xs) k : Nat) : Int) := rfl
    simp only [this, List.getElem_map]
    have e2 : (rgN 0 (backF xs).length)[k]'(by rw [rgN_len, backF_len]; exact h2) = (k : Int) := by
      unfold rgN
      rw [List.getElem_map, List.getElem_range]
      omega
    rw [e2, ← e, idx_get hq (isRow_nodup hb)]
    omega
/-! highs and lows of the turned row -/
theorem turn_ranks {xs : List Int} (hn : xs.Nodup) {i : Nat} (h : i < xs.length) : (ranksIn (turnF xs)).getD i 0 = (i : Int) - (ranksIn xs).getD i 0 := by
  have h' : i < (turnF xs).length := by rw [turnF_len]; exact h
  rw [ranksIn_get h', ranksIn_get h]
  have gi : (turnF xs)[i] = (xs.length : Int) - 1 - xs[i] := by simp [turnF]
  rw [gi]
  have e : ((turnF xs).take i).filter (fun y => decide (y < (xs.length : Int) - 1 - xs[i])) = ((xs.take i).filter fun y => decide (xs[i] < y)).map fun x => (xs.length : Int) - 1 - x := by
    unfold turnF
    rw [← List.map_take, List.filter_map]
    congr 1
    apply List.filter_congr
    intro y _
    simp only [Function.comp, decide_eq_decide]
    omega
  rw [e, List.length_map]
  have := less_more hn h
  omega
theorem turn_highs {xs : List Int} (h : isRow xs = true) : highsIn (ranksIn (turnF xs)) = lowsIn (ranksIn xs) := by
  have hn := isRow_nodup h
  unfold highsIn lowsIn
  rw [filter_range (P := fun x i => decide (x = ((i : Nat) : Int))), filter_range (P := fun x i => decide (x = 0)), ranksIn_len, ranksIn_len, turnF_len]
  congr 1
  apply List.filter_congr
  intro i hi
  have h := List.mem_range.mp hi
  rw [turn_ranks hn h, decide_eq_decide]
  omega
theorem turn_lows {xs : List Int} (h : isRow xs = true) : lowsIn (ranksIn (turnF xs)) = highsIn (ranksIn xs) := by
  have hn := isRow_nodup h
  unfold highsIn lowsIn
  rw [filter_range (P := fun x i => decide (x = ((i : Nat) : Int))), filter_range (P := fun x i => decide (x = 0)), ranksIn_len, ranksIn_len, turnF_len]
  congr 1
  apply List.filter_congr
  intro i hi
  have h := List.mem_range.mp hi
  rw [turn_ranks hn h, decide_eq_decide]
  omega
/-! inversions -/
theorem inv_of {xs : List Int} (h : isRow xs = true) : invIn (ranksIn xs) = (invL xs : Int) := by rw [inv_eq (isRow_nodup h), inv_list]
theorem pairs_int (n : Nat) : (n : Int) * ((n : Int) - 1) / 2 = ((n * (n - 1) / 2 : Nat) : Int) := by
  cases n with
  | zero => rfl
  | succ n =>
    have : ((n + 1 : Nat) : Int) - 1 = (n : Int) := by omega
    rw [this, Nat.add_sub_cancel, Int.natCast_ediv, Int.natCast_mul]
    rfl
theorem inv_turn {xs : List Int} (h : isRow xs = true) : invIn (ranksIn (turnF xs)) = (xs.length : Int) * ((xs.length : Int) - 1) / 2 - invIn (ranksIn xs) := by
  rw [inv_of (turn_row h), inv_of h, pairs_int]
  have e : invL (turnF xs) = ascL xs := inv_anti (fun x y => by omega) xs
  have := asc_inv (isRow_nodup h)
  rw [e]; omega
theorem inv_mirror {xs : List Int} (h : isRow xs = true) : invIn (ranksIn xs.reverse) = (xs.length : Int) * ((xs.length : Int) - 1) / 2 - invIn (ranksIn xs) := by
  rw [inv_of (rev_row h), inv_of h, pairs_int, inv_rev]
  have := asc_inv (isRow_nodup h)
  omega
theorem inv_backF {xs : List Int} (h : isRow xs = true) : invIn (ranksIn (backF xs)) = invIn (ranksIn xs) := by
  rw [inv_of (back_row h), inv_of h, inv_back h]
theorem inv_exch {xs : List Int} (hr : isRow xs = true) {p : Nat} (h : p + 1 < xs.length) : invIn (ranksIn (exchF xs p)) = invIn (ranksIn xs) + (if xs[p] < xs[p + 1] then 1 else -1) := by
  rw [inv_of (exch_row hr h), inv_of hr]
  have hp : p < xs.length := by omega
  have e := split2 h
  have g1 : xs.getD (p + 1) 0 = xs[p + 1] := by simp [List.getD, h]
  have g0 : xs.getD p 0 = xs[p] := by simp [List.getD, hp]
  have ne : xs[p] ≠ xs[p + 1] := fun z => by
    have := (List.getElem_inj (isRow_nodup hr)).mp z
    omega
  have e1 : invL (exchF xs p) = invL (xs.take p) + invL (xs[p + 1] :: xs[p] :: xs.drop (p + 2)) + crossL (xs.take p) (xs[p + 1] :: xs[p] :: xs.drop (p + 2)) := by
    unfold exchF
    rw [g1, g0, invL_append]
  have e2 : invL xs = invL (xs.take p) + invL (xs[p] :: xs[p + 1] :: xs.drop (p + 2)) + crossL (xs.take p) (xs[p] :: xs[p + 1] :: xs.drop (p + 2)) := by
    conv => lhs; rw [e]
    rw [invL_append]
  have e3 : crossL (xs.take p) (xs[p + 1] :: xs[p] :: xs.drop (p + 2)) = crossL (xs.take p) (xs[p] :: xs[p + 1] :: xs.drop (p + 2)) := crossL_perm (List.Perm.swap _ _ _) _
  rw [e1, e2, e3]
  simp only [invL_cons, List.countP_cons]
  by_cases hlt : xs[p] < xs[p + 1]
  · have : ¬ xs[p + 1] < xs[p] := by omega
    simp only [hlt, this, decide_true, decide_false, if_true, Bool.false_eq_true, if_false]
    omega
  · have : xs[p + 1] < xs[p] := by omega
    simp only [hlt, this, decide_true, decide_false, if_true, Bool.false_eq_true, if_false]
    omega
/-! ranks behind -/
def rkB (pre : List Int) : List Int → List Int
  | [] => []
  | y :: ys => ((pre.countP fun z => decide (z < y) : Nat) : Int) :: rkB (pre ++ [y]) ys
theorem rkB_perm : ∀ {pre pre' : List Int} (ys : List Int), pre.Perm pre' → rkB pre ys = rkB pre' ys
  | pre, pre', [], _ => rfl
  | pre, pre', y :: ys, h => by
    unfold rkB
    rw [h.countP_eq, rkB_perm ys (h.append_right [y])]
theorem ranks_split : ∀ (ys pre : List Int), ranksIn (pre ++ ys) = ranksIn pre ++ rkB pre ys
  | [], pre => by simp [rkB]
  | y :: ys, pre => by
    have := ranks_split ys (pre ++ [y])
    rw [List.append_assoc] at this
    unfold rkB
    rw [show pre ++ y :: ys = pre ++ ([y] ++ ys) from rfl, this, ranksIn_snoc, List.append_assoc, List.countP_eq_length_filter]
    rfl
theorem exch_ranks {xs : List Int} {p : Nat} (h : p + 1 < xs.length) : (ranksIn (exchF xs p)).drop (p + 2) = (ranksIn xs).drop (p + 2) := by
  have hp : p < xs.length := by omega
  have e := split2 h
  have g1 : xs.getD (p + 1) 0 = xs[p + 1] := by simp [List.getD, h]
  have g0 : xs.getD p 0 = xs[p] := by simp [List.getD, hp]
  have lt : (xs.take p).length = p := by rw [List.length_take]; omega
  have e1 : exchF xs p = (xs.take p ++ [xs[p + 1], xs[p]]) ++ xs.drop (p + 2) := by
    unfold exchF
    rw [g1, g0]; simp
  have e2 : xs = (xs.take p ++ [xs[p], xs[p + 1]]) ++ xs.drop (p + 2) := by
    conv => lhs; rw [e]
    simp
  have r1 := ranks_split (xs.drop (p + 2)) (xs.take p ++ [xs[p + 1], xs[p]])
  have r2 := ranks_split (xs.drop (p + 2)) (xs.take p ++ [xs[p], xs[p + 1]])
  rw [← e1] at r1
  rw [← e2] at r2
  rw [r1, r2, List.drop_left' (by rw [ranksIn_len]; simp; omega), List.drop_left' (by rw [ranksIn_len]; simp; omega)]
  exact rkB_perm _ ((List.Perm.swap _ _ _).append_left _)
theorem exch_exch {xs : List Int} {p : Nat} (h : p + 1 < xs.length) : exchF (exchF xs p) p = xs := by
  have hp : p < xs.length := by omega
  have lt : (xs.take p).length = p := by rw [List.length_take]; omega
  have g1 : xs.getD (p + 1) 0 = xs[p + 1] := by simp [List.getD, h]
  have g0 : xs.getD p 0 = xs[p] := by simp [List.getD, hp]
  have e1 : exchF xs p = xs.take p ++ xs[p + 1] :: xs[p] :: xs.drop (p + 2) := by unfold exchF; rw [g1, g0]
  have a1 : (exchF xs p).take p = xs.take p := by rw [e1, List.take_left' lt]
  have a2 : (exchF xs p).drop (p + 2) = xs.drop (p + 2) := by
    rw [e1, show xs.take p ++ xs[p + 1] :: xs[p] :: xs.drop (p + 2) = (xs.take p ++ [xs[p + 1], xs[p]]) ++ xs.drop (p + 2) by simp, List.drop_left' (by simp; omega)]
  have a3 : (exchF xs p).getD p 0 = xs[p + 1] := by
    rw [e1, List.getD_eq_getElem?_getD, List.getElem?_append_right (by omega), lt]; simp
  have a4 : (exchF xs p).getD (p + 1) 0 = xs[p] := by
    rw [e1, List.getD_eq_getElem?_getD, List.getElem?_append_right (by omega), lt]; simp
  unfold exchF at a1 a2 a3 a4 ⊢
  rw [a1, a2, a3, a4]
  exact (split2 h).symm
end DL
/-! inversions of rows that keep a wish -/
namespace DL
open PySem L2
def T_bounds_of_1 : SEnv → R Out :=
  (sRet (eTup (aCons (eVar 3) (aCons (eCall oSum (aCons (eNew (eLc (iEn (eVar 2)) (.tp (.cons (.nm 4) (.cons (.tp (.cons (.nm 5) (.cons (.nm 6) .nil))) .nil))) bYes (eOp oSub (eVar 4) (eVar 5)) [4, 5, 6])) aNil)) aNil))))
def T_bounds_of_2 : SEnv → R Out :=
  (sSeq (sAsgH 3 (eCall oSum (aCons (eNew (eLc (iEn (eVar 2)) (.tp (.cons (.nm 4) (.cons (.tp (.cons (.nm 5) (.cons (.nm 6) .nil))) .nil))) bYes (eOp oSub (eVar 4) (eVar 6)) [4, 5, 6])) aNil)))
  T_bounds_of_1)
def S_bounds_of : SEnv → R Out :=
  (sSeq (sAsgH 2 (eNew (eCallN (callF 2 m_spans) (aCons (eVar 0) (aCons (eVar 1) aNil)))))
  T_bounds_of_2)
def m_bounds_of : List D → R D := runX 7 S_bounds_of
def S_With_init : DL.Env → R (List (Str × D)) :=
  (iCons "row" (eNew (eCallN oList (aCons (eVar 1) aNil))) iNil)
def m_With_init : List D → R (List (Str × D)) := runI 2 S_With_init
def S_With_shows : SEnv → R Out :=
  (sRet (eAnd (eCall (callF 3 m_is_one) (aCons (eVar 1) (aCons (eVar 2) (aCons (eUn (oFld ["With"] "row") (eVar 0)) aNil)))) (eOp oEq (eCall (callF 1 m_inversions_in) (aCons (eNew (eCallN (callF 1 m_ranks_in) (aCons (eUn (oFld ["With"] "row") (eVar 0)) aNil))) aNil)) (eVar 3))))
def m_With_shows : List D → R D := runX 4 S_With_shows
def S_Beyond_init : DL.Env → R (List (Str × D)) :=
  (iCons "fewest" (eVar 1) (iCons "most" (eVar 2) iNil))
def m_Beyond_init : List D → R (List (Str × D)) := runI 3 S_Beyond_init
def T_Beyond_shows_1 : SEnv → R Out :=
  (sRet (eOr (eOp oLt (eVar 3) (eUn (oFld ["Beyond"] "fewest") (eVar 0))) (eOp oGt (eVar 3) (eUn (oFld ["Beyond"] "most") (eVar 0)))))
def S_Beyond_shows : SEnv → R Out :=
  (sSeq (sIf (bE (eOp oNe (eTup (aCons (eUn (oFld ["Beyond"] "fewest") (eVar 0)) (aCons (eUn (oFld ["Beyond"] "most") (eVar 0)) aNil))) (eCall (callF 2 m_bounds_of) (aCons (eVar 1) (aCons (eVar 2) aNil)))))
  (sRet (eC (.bl false)))
  sNext)
  T_Beyond_shows_1)
def m_Beyond_shows : List D → R D := runX 4 S_Beyond_shows
def T_bounds_1 : SEnv → R Out :=
  (sRet (eIf (bE (eOp oIsNot (eCall (callF 2 m_bar_of) (aCons (eVar 0) (aCons (eVar 1) aNil))) (eC .non))) (eC .non) (eCall (callF 2 m_bounds_of) (aCons (eVar 0) (aCons (eVar 1) aNil)))))
def T_bounds_2 : SEnv → R Out :=
  (sSeq (sExpr (eCall (callF 2 m_check_wish) (aCons (eVar 0) (aCons (eVar 1) aNil))))
  T_bounds_1)
def S_bounds : SEnv → R Out :=
  (sSeq (sExpr (eCall (callF 1 m_check_things) (aCons (eVar 0) aNil)))
  T_bounds_2)
def m_bounds : List D → R D := runX 2 S_bounds
def S_check_number : SEnv → R Out :=
  (sIf (bOr (bNot (bE (eCall (callF 1 m_is_whole) (aCons (eVar 0) aNil)))) (bE (eOp oLt (eVar 0) (eC (.int 0)))))
  (sRaise "BadNumber")
  sNext)
def m_check_number : List D → R D := runX 1 S_check_number
def B_counts_of_1 : SEnv → R Out :=
  (sApp 6 (eOp oAdd (eOp oIx (eVar 6) (eUn oNeg (eC (.int 1)))) (eVar 7)))
def T_counts_of_1 : SEnv → R Out :=
  (sApp 8 (eIf (bE (eOp oLe (eVar 4) (eVar 5))) (eOp oSub (eOp oIx (eVar 6) (eVar 9)) (eOp oIx (eVar 6) (eVar 10))) (eC (.int 0))))
def T_counts_of_2 : SEnv → R Out :=
  (sSeq (sAsgH 10 (eCall oMin (aCons (eCall oLen (aCons (eVar 2) aNil)) (aCons (eCall oMax (aCons (eC (.int 0)) (aCons (eOp oSub (eVar 7) (eOp oSub (eVar 3) (eVar 4))) aNil))) aNil))))
  T_counts_of_1)
def B_counts_of_2 : SEnv → R Out :=
  (sSeq (sAsgH 9 (eCall oMin (aCons (eCall oLen (aCons (eVar 2) aNil)) (aCons (eCall oMax (aCons (eC (.int 0)) (aCons (eOp oAdd (eOp oSub (eVar 7) (eOp oSub (eVar 3) (eVar 5))) (eC (.int 1))) aNil))) aNil))))
  T_counts_of_2)
def T_counts_of_3 : SEnv → R Out :=
  (sSeq (sFor (eCallN rg1 (aCons (eOp oAdd (eCall oLen (aCons (eVar 2) aNil)) (eVar 3)) aNil)) (.nm 7)
  B_counts_of_2)
  (sFrz 8 (sAsgH 2 (eVar 8))))
def T_counts_of_4 : SEnv → R Out :=
  (sSeq (sFor (iOf (eVar 2)) (.nm 7)
  B_counts_of_1)
  (sSeq (sAsgNH 8 (eLst aNil))
  T_counts_of_3))
def B_counts_of_3 : SEnv → R Out :=
  (sSeq (sAsgNH 6 (eLst (aCons (eC (.int 0)) aNil)))
  T_counts_of_4)
def T_counts_of_5 : SEnv → R Out :=
  (sSeq (sFor (iEn (eNew (eCallN (callF 2 m_spans) (aCons (eVar 0) (aCons (eVar 1) aNil))))) (.tp (.cons (.nm 3) (.cons (.tp (.cons (.nm 4) (.cons (.nm 5) .nil))) .nil)))
  B_counts_of_3)
  (sRet (eVar 2)))
def S_counts_of : SEnv → R Out :=
  (sSeq (sAsgH 2 (eNew (eLst (aCons (eC (.int 1)) aNil))))
  T_counts_of_5)
def m_counts_of : List D → R D := runX 11 S_counts_of
def T_how_many_with_1 : SEnv → R Out :=
  (sRet (eIf (bE (eOp oLt (eVar 2) (eCall oLen (aCons (eVar 3) aNil)))) (eOp oIx (eVar 3) (eVar 2)) (eC (.int 0))))
def T_how_many_with_2 : SEnv → R Out :=
  (sSeq (sAsgH 3 (eCall (callF 2 m_counts_of) (aCons (eVar 0) (aCons (eVar 1) aNil))))
  T_how_many_with_1)
def T_how_many_with_3 : SEnv → R Out :=
  (sSeq (sExpr (eCall (callF 1 m_check_number) (aCons (eVar 2) aNil)))
  T_how_many_with_2)
def T_how_many_with_4 : SEnv → R Out :=
  (sSeq (sExpr (eCall (callF 2 m_check_wish) (aCons (eVar 0) (aCons (eVar 1) aNil))))
  T_how_many_with_3)
def S_how_many_with : SEnv → R Out :=
  (sSeq (sExpr (eCall (callF 1 m_check_things) (aCons (eVar 0) aNil)))
  T_how_many_with_4)
def m_how_many_with : List D → R D := runX 4 S_how_many_with
def T_just_1 : SEnv → R Out :=
  (sSeq (sAppH 6 (eOp oSub (eVar 8) (eVar 9)))
  (sAug 5 oSub (eVar 9)))
def B_just_1 : SEnv → R Out :=
  (sSeq (sAsgH 9 (eCall oMin (aCons (eVar 5) (aCons (eOp oSub (eVar 8) (eVar 7)) aNil))))
  T_just_1)
def T_just_2 : SEnv → R Out :=
  (sRet (eCall (oMake "With" 2 m_With_init) (aCons (eNew (eCallN (callF 1 m_row_by_ranks) (aCons (eVar 6) aNil))) aNil)))
def T_just_3 : SEnv → R Out :=
  (sSeq (sFor (iOf (eNew (eCallN (callF 2 m_spans) (aCons (eVar 0) (aCons (eVar 1) aNil))))) (.tp (.cons (.nm 7) (.cons (.nm 8) .nil)))
  B_just_1)
  T_just_2)
def T_just_4 : SEnv → R Out :=
  (sSeq (sPar [5, 6] (bsCons (bH (eOp oSub (eVar 2) (eVar 3))) (bsCons (bNH (eLst aNil)) bsNil)))
  T_just_3)
def T_just_5 : SEnv → R Out :=
  (sSeq (sIf (bNot (bE (eChain oLe oLe (eVar 3) (eVar 2) (eVar 4))))
  (sRet (eCall (oMake "Beyond" 3 m_Beyond_init) (aCons (eVar 3) (aCons (eVar 4) aNil))))
  sNext)
  T_just_4)
def T_just_6 : SEnv → R Out :=
  (sSeq (sUnp (.tp (.cons (.nm 3) (.cons (.nm 4) .nil))) (eCall (callF 2 m_bounds_of) (aCons (eVar 0) (aCons (eVar 1) aNil))))
  T_just_5)
def T_just_7 : SEnv → R Out :=
  (sSeq (sIf (bE (eOp oIsNot (eCall (callF 2 m_bar_of) (aCons (eVar 0) (aCons (eVar 1) aNil))) (eC .non)))
  (sRaise "NoRow")
  sNext)
  T_just_6)
def T_just_8 : SEnv → R Out :=
  (sSeq (sExpr (eCall (callF 1 m_check_number) (aCons (eVar 2) aNil)))
  T_just_7)
def T_just_9 : SEnv → R Out :=
  (sSeq (sExpr (eCall (callF 2 m_check_wish) (aCons (eVar 0) (aCons (eVar 1) aNil))))
  T_just_8)
def S_just : SEnv → R Out :=
  (sSeq (sExpr (eCall (callF 1 m_check_things) (aCons (eVar 0) aNil)))
  T_just_9)
def m_just : List D → R D := runX 10 S_just
/-! ### bounds -/
def fewF (n : Nat) (H L : Wl) : Int := ((rgN 0 n).map fun p => p - (spanF H L p).2).sum
def mostF (n : Nat) (H L : Wl) : Int := ((rgN 0 n).map fun p => p - (spanF H L p).1).sum
theorem ev_bounds_of (n : Nat) (H L : Wl) (h : n ≤ 1000) : m_bounds_of [.int n, Wi H L] = .ok (.tup [.int (fewF n H L), .int (mostF n H L)]) := by
  have h0 : n ≤ 100000 := by omega
  have en : ∀ d3 : Option D, iEn (eVar 2) [some (.int (n : Int)), some (Wi H L), some (.lst ((spansF n H L).map pD)), d3, none, none, none] = .ok ((rgN 0 n).map fun p => .tup [.int p, pD (spanF H L p)]) := by
    intro d3
    unfold iEn
    simp [enum_spans]
  have lc : ∀ (d3 : Option D) (g : Int → Int × Int → Int) (te : DL.Env → R D), (∀ p ab, te [some (.int (n : Int)), some (Wi H L), some (.lst ((spansF n H L).map pD)), d3, some (.int p), some (.int ab.1), some (.int ab.2)] = .ok (.int (g p ab))) →
      lcGo (.tp (.cons (.nm 4) (.cons (.tp (.cons (.nm 5) (.cons (.nm 6) .nil))) .nil))) bYes te [some (.int (n : Int)), some (Wi H L), some (.lst ((spansF n H L).map pD)), d3, none, none, none] ((rgN 0 n).map fun p => .tup [.int p, pD (spanF H L p)]) = .ok ((rgN 0 n).map fun p => .int (g p (spanF H L p))) := by
    intro d3 g te hte
    have := lcGo_map (t := .tp (.cons (.nm 4) (.cons (.tp (.cons (.nm 5) (.cons (.nm 6) .nil))) .nil))) (tt := bYes) (te := te) (ρ := [some (.int (n : Int)), some (Wi H L), some (.lst ((spansF n H L).map pD)), d3, none, none, none]) (fun p : Int => D.tup [.int p, pD (spanF H L p)]) (fun p => [(4, .int p), (5, .int (spanF H L p).1), (6, .int (spanF H L p).2)]) (fun _ => true) (fun p => .int (g p (spanF H L p))) (rgN 0 n) (fun p _ => by simp) (fun _ _ => rfl) (fun p _ _ => by simpa using hte p (spanF H L p))
    rw [this, List.filter_eq_self.mpr (fun _ _ => rfl)]
  have l1 := lc none (fun p ab => p - ab.2) (eOp oSub (eVar 4) (eVar 6)) (fun p ab => by simp)
  have l2 := lc (some (.int (fewF n H L))) (fun p ab => p - ab.1) (eOp oSub (eVar 4) (eVar 5)) (fun p ab => by simp)
  have s1 : oSum [.lst ((rgN 0 n).map fun p => .int (p - (spanF H L p).2))] = .ok (.int (fewF n H L)) := sum_map _ _
  have s2 : oSum [.lst ((rgN 0 n).map fun p => .int (p - (spanF H L p).1))] = .ok (.int (mostF n H L)) := sum_map _ _
  have st : m_bounds_of [.int n, Wi H L] = (T_bounds_of_2 [.sh (.int n), .sh (Wi H L), .sh (.lst ((spansF n H L).map pD)), .un, .un, .un, .un]).bind outX := by
    simp [m_bounds_of, S_bounds_of, runX, initS, List.replicate, ev_spans n H L h]
  rw [st]
  simp only [T_bounds_of_2, T_bounds_of_1, ap_Seq, ap_sAsgH, ap_Call, ap_aCons, ap_aNil, ap_New, ap_Lc, hdE_sh, hdE_un, hdE_nil, en, R.bind_ok, List.length_map, rgN_len, h0, if_true, wipeD_cons, wipeD_nil, List.set_cons_succ, List.set_cons_zero, l1, R.map_ok, s1, ap_thenNx, ap_sRet, ap_Tup, frE_sh, frE_un, frE_nil, var_s, var_0, l2, s2, List.length_cons, List.length_nil, Nat.reduceAdd, Nat.reduceLeDiff, ap_outRt]
theorem ev_number_ok {k : Int} (h : 0 ≤ k) : m_check_number [.int k] = .ok .non := by
  have : ¬ k < 0 := by omega
  simp [m_check_number, S_check_number, runX, initS, ev_whole, this]
def bndD : Option (Int × Int) → D
  | none => .non
  | some q => .tup [.int q.1, .int q.2]
def bndF (n : Nat) (H L : Wl) : Option (Int × Int) := match barF n H L with
  | some _ => none
  | none => some (fewF n H L, mostF n H L)
theorem ev_bounds (n : Nat) (H L : Wl) (h1 : 1 ≤ n) (h2 : n ≤ 60) (hw : (okW n H && okW n L) = true) : m_bounds [.int n, Wi H L] = .ok (bndD (bndF n H L)) := by
  obtain ⟨sH, sL⟩ := okW_shorts hw (by omega)
  have e1 : m_check_things [.int (n : Int)] = .ok .non := by rw [ev_things, if_pos (by omega)]
  have e2 := ev_check_wish n H L sH sL
  rw [hw, if_pos rfl] at e2
  unfold bndF
  cases hb : barF n H L with
  | none => simp [m_bounds, S_bounds, T_bounds_2, T_bounds_1, runX, initS, List.replicate, e1, e2, ev_bar_of n H L (by omega), hb, optD, ev_bounds_of n H L (by omega), bndD]
  | some p => simp [m_bounds, S_bounds, T_bounds_2, T_bounds_1, runX, initS, List.replicate, e1, e2, ev_bar_of n H L (by omega), hb, optD, bndD]
/-! ### With, Beyond -/
abbrev withD (row : List Int) : D := .obj "With" ["row"] [Li row]
abbrev beyD (a b : Int) : D := .obj "Beyond" ["fewest", "most"] [.int a, .int b]
theorem mk_With (row : List Int) : oMake "With" 2 m_With_init [Li row] = .ok (withD row) := by
  simp [oMake, m_With_init, runI, S_With_init, initI, iCons, iNil, noErr, List.replicate]
theorem mk_Beyond (a b : Int) : oMake "Beyond" 3 m_Beyond_init [.int a, .int b] = .ok (beyD a b) := by
  simp [oMake, m_Beyond_init, runI, S_Beyond_init, initI, iCons, iNil, noErr, List.replicate]
  decide
theorem fld_wrow (cs : List Str) (h : ("With" : Str) ∈ cs) (row : List Int) : oFld cs "row" (withD row) = .ok (Li row) := by
  simp [oFld, h, List.zip]
theorem fld_few (cs : List Str) (h : ("Beyond" : Str) ∈ cs) (a b : Int) : oFld cs "fewest" (beyD a b) = .ok (.int a) := by
  simp [oFld, h, List.zip]
theorem fld_most (cs : List Str) (h : ("Beyond" : Str) ∈ cs) (a b : Int) : oFld cs "most" (beyD a b) = .ok (.int b) := by
  have e : List.lookup ("most" : Str) [(("fewest" : Str), D.int a), ("most", D.int b)] = some (D.int b) := by
    rw [List.lookup_cons, show (("most" : Str) == ("fewest" : Str)) = false by decide, List.lookup_cons, show (("most" : Str) == ("most" : Str)) = true by decide]
  simp [oFld, h, List.zip, e]
theorem ev_With_shows (row : List Int) (n : Nat) (H L : Wl) (k : Int) : m_With_shows [withD row, .int n, Wi H L, .int k] = .ok (.bl (isRow row && (decide (row.length = n) && keptF (ranksIn row) H L) && decide (invIn (ranksIn row) = k))) := by
  cases hb : (isRow row && (decide (row.length = n) && keptF (ranksIn row) H L)) with
  | false => simp only [m_With_shows, S_With_shows, runX, initS, List.replicate, ap_sRet, ap_And, ap_Call, ap_aCons, ap_aNil, ap_Un, List.map_cons, List.map_nil, List.cons_append, List.nil_append, List.length_cons, List.length_nil, Nat.reduceAdd, Nat.reduceSub, frE_sh, frE_nil, var_0, var_s, R.bind_ok, fld_wrow ["With"] (by simp), callF_3, ev_is_one, hb, ap_asB, Bool.false_eq_true, if_false, ap_outRt, Bool.false_and]
  | true =>
    have hr : isRow row = true := by rw [Bool.and_eq_true] at hb; exact hb.1
    have hl := isRow_len hr
    simp only [m_With_shows, S_With_shows, runX, initS, List.replicate, ap_sRet, ap_And, ap_Call, ap_aCons, ap_aNil, ap_Un, List.map_cons, List.map_nil, List.cons_append, List.nil_append, List.length_cons, List.length_nil, Nat.reduceAdd, Nat.reduceSub, frE_sh, frE_nil, var_0, var_s, R.bind_ok, fld_wrow ["With"] (by simp), callF_3, ev_is_one, hb, ap_asB, if_true, ap_outRt, Bool.true_and, ap_Op, ap_New, ap_CallN, callF_1, ev_ranks_in (show row.length ≤ 1000 by omega), R.map_ok, ev_inversions_in (show (ranksIn row).length ≤ 1000 by rw [ranksIn_len]; omega), oEq_int]
theorem eqD_pair (a b c d : Int) : eqD (.tup [.int a, .int b]) (.tup [.int c, .int d]) = .ok (decide (a = c ∧ b = d)) := by
  unfold eqD
  simp only [toPy, toPys, Option.map_some, Option.bind_some]
  rw [if_pos ⟨rfl, rfl⟩]
  unfold PyData.eqv PyData.eqvAll PyData.eqvAll PyData.eqvAll PyData.eqv
  by_cases h1 : a = c <;> by_cases h2 : b = d <;> simp [h1, h2]
theorem oNe_pair (a b c d : Int) : oNe (.tup [.int a, .int b]) (.tup [.int c, .int d]) = .ok (.bl (!decide (a = c ∧ b = d))) := by unfold oNe; rw [eqD_pair]; rfl
theorem oEq_pair (a b c d : Int) : oEq (.tup [.int a, .int b]) (.tup [.int c, .int d]) = .ok (.bl (decide (a = c ∧ b = d))) := by unfold oEq; rw [eqD_pair]; rfl
theorem ev_Beyond_shows (a b : Int) (n : Nat) (H L : Wl) (k : Int) (h : n ≤ 1000) : m_Beyond_shows [beyD a b, .int n, Wi H L, .int k] = .ok (.bl (decide (a = fewF n H L ∧ b = mostF n H L) && (decide (k < a) || decide (b < k)))) := by
  by_cases e : a = fewF n H L ∧ b = mostF n H L
  · by_cases q : k < a
    · simp [m_Beyond_shows, S_Beyond_shows, T_Beyond_shows_1, runX, initS, List.replicate, fld_few, fld_most, ev_bounds_of n H L h, oNe_pair, ← e.1, ← e.2, q]
    · simp [m_Beyond_shows, S_Beyond_shows, T_Beyond_shows_1, runX, initS, List.replicate, fld_few, fld_most, ev_bounds_of n H L h, oNe_pair, ← e.1, ← e.2, q]
  · simp only [m_Beyond_shows, S_Beyond_shows, runX, initS, List.replicate, ap_Seq, ap_sIf, ap_bE, ap_Op, ap_Tup, ap_Call, ap_aCons, ap_aNil, ap_Un, List.map_cons, List.map_nil, List.cons_append, List.nil_append, List.length_cons, List.length_nil, Nat.reduceAdd, Nat.reduceSub, frE_sh, frE_nil, var_0, var_s, R.bind_ok, fld_few ["Beyond"] (by simp), fld_most ["Beyond"] (by simp), Nat.reduceLeDiff, if_true, callF_2, ev_bounds_of n H L h, oNe_pair, e, decide_false, Bool.not_false, ap_asB, ap_sRet, ap_C, ap_thenRt, ap_outRt, Bool.false_and]

/-! ### counts -/
def psum (a : Int) : List Int → List Int
  | [] => []
  | x :: xs => (a + x) :: psum (a + x) xs
theorem ix_last (l : List Int) (a : Int) : oIx (.lst ((l ++ [a]).map D.int)) (.int (-1)) = .ok (.int a) := by
  refine ix_lst ?_
  rw [List.map_append, List.map_singleton]
  exact atI_last _ _
theorem sums_loop (e0 e1 e2 e3 e4 e5 e8 e9 e10 : VE) : ∀ (xs l : List Int) (a : Int) (d7 : VE), l.length + xs.length ≤ 5000 → ∃ f7, forGo (.nm 7) B_counts_of_1 (xs.map D.int) [e0, e1, e2, e3, e4, e5, .ow ((l ++ [a]).map D.int), d7, e8, e9, e10] = .ok (.nx [e0, e1, e2, e3, e4, e5, .ow ((l ++ a :: psum a xs).map D.int), f7, e8, e9, e10])
  | [], l, a, d7, _ => ⟨d7, rfl⟩
  | x :: xs, l, a, d7, h => by
    simp only [List.length_cons] at h
    obtain ⟨f7, e⟩ := sums_loop e0 e1 e2 e3 e4 e5 e8 e9 e10 xs (l ++ [a]) (a + x) (.sh (.int x)) (by simp; omega)
    refine ⟨f7, ?_⟩
    have hl : l.length + 1 < 100000 := by omega
    have ix := ix_last l a
    have step : B_counts_of_1 [e0, e1, e2, e3, e4, e5, .ow ((l ++ [a]).map D.int), .sh (.int x), e8, e9, e10] = .ok (.nx [e0, e1, e2, e3, e4, e5, .ow ((l ++ [a] ++ [a + x]).map D.int), .sh (.int x), e8, e9, e10]) := by
      have hl2 : ((l ++ [a]).map D.int).length < 100000 := by simp; omega
      simp only [B_counts_of_1, ap_sApp, List.getElem?_cons_succ, List.getElem?_cons_zero, ap_Op, ap_Un, ap_C, frE_cons, fr_ow, fr_sh, var_s, var_0, R.bind_ok, neg_int, ix, add_int, flat_int, hl2, and_self, if_true, List.set_cons_succ, List.set_cons_zero]
      simp
    rw [List.map_cons, for_step (ap_tgNm 7 _) step, e]
    simp [psum]
theorem psum_get : ∀ (xs : List Int) (a : Int) (j : Nat), j ≤ xs.length → (a :: psum a xs)[j]? = some (a + (xs.take j).sum)
  | xs, a, 0, _ => by simp
  | [], a, j + 1, h => by simp at h
  | x :: xs, a, j + 1, h => by
    rw [List.getElem?_cons_succ]
    unfold psum
    rw [psum_get xs (a + x) j (by simpa using h), List.take_succ_cons, List.sum_cons]
    congr 1
    omega
/-- a count function told by a list -/
def tab (f : Int → Int) (m : Nat) : List Int := (rgN 0 m).map f
theorem tab_len (f : Int → Int) (m : Nat) : (tab f m).length = m := by simp [tab, rgN_len]
theorem tab_get {f : Int → Int} {m j : Nat} (h : j < m) : (tab f m)[j]? = some (f j) := by
  unfold tab rgN
  rw [List.getElem?_map, List.getElem?_map, List.getElem?_range h]
  simp
/-- the sum of the first ones, clipped -/
def clipS (f : Int → Int) (m : Nat) (x : Int) : Int := ((rgN 0 (min m (max 0 x).toNat)).map f).sum
theorem rgN_snoc (lo : Int) (n : Nat) : rgN lo (n + 1) = rgN lo n ++ [lo + n] := by
  rw [rgN_split lo n 1]; simp [rgN]
theorem clip_succ {f : Int → Int} {m : Nat} (h0 : ∀ x, x < 0 ∨ (m : Int) ≤ x → f x = 0) (x : Int) : clipS f m (x + 1) = clipS f m x + f x := by
  unfold clipS
  by_cases a : x < 0
  · have e1 : (max 0 (x + 1)).toNat = 0 := by omega
    have e2 : (max 0 x).toNat = 0 := by omega
    rw [e1, e2, h0 x (.inl a)]; omega
  · by_cases b : (m : Int) ≤ x
    · have e1 : min m (max 0 (x + 1)).toNat = m := by omega
      have e2 : min m (max 0 x).toNat = m := by omega
      rw [e1, e2, h0 x (.inr b)]; omega
    · have e1 : min m (max 0 (x + 1)).toNat = x.toNat + 1 := by omega
      have e2 : min m (max 0 x).toNat = x.toNat := by omega
      rw [e1, e2, rgN_snoc, List.map_append, List.sum_append]
      have : (0 : Int) + (x.toNat : Int) = x := by omega
      simp only [List.map_cons, List.map_nil, List.sum_cons, List.sum_nil, this]
      omega
theorem clip_sum {f : Int → Int} {m : Nat} (h0 : ∀ x, x < 0 ∨ (m : Int) ≤ x → f x = 0) (k a : Int) : ∀ n : Nat, ((rgN a n).map fun j => f (k - j)).sum = clipS f m (k - a + 1) - clipS f m (k - a - n + 1)
  | 0 => by
    have : k - a - ((0 : Nat) : Int) + 1 = k - a + 1 := by omega
    rw [this]; simp [rgN]
  | n + 1 => by
    rw [rgN_snoc, List.map_append, List.sum_append, clip_sum h0 k a n]
    have e := clip_succ h0 (k - a - n)
    have e2 : k - a - ((n + 1 : Nat) : Int) + 1 = k - a - n := by omega
    have e3 : k - (a + (n : Int)) = k - a - n := by omega
    rw [e2]
    simp only [List.map_cons, List.map_nil, List.sum_cons, List.sum_nil, e3]
    omega
def nextC (f : Int → Int) (p : Int) (ab : Int × Int) (k : Int) : Int := if ab.1 ≤ ab.2 then ((rgN (p - ab.2) (ab.2 - ab.1 + 1).toNat).map fun j => f (k - j)).sum else 0
def cntF (H L : Wl) : Nat → Int → Int
  | 0, k => if k = 0 then 1 else 0
  | p + 1, k => nextC (cntF H L p) p (spanF H L p) k
def lenC : Nat → Nat
  | 0 => 1
  | p + 1 => lenC p + p
theorem sum_zero {α : Type} (xs : List α) (f : α → Int) (h : ∀ x ∈ xs, f x = 0) : (xs.map f).sum = 0 := by
  induction xs with
  | nil => rfl
  | cons x xs ih => rw [List.map_cons, List.sum_cons, h x List.mem_cons_self, ih fun y hy => h y (List.mem_cons_of_mem _ hy)]; rfl
theorem cnt_zero (H L : Wl) : ∀ (p : Nat) (k : Int), k < 0 ∨ (lenC p : Int) ≤ k → cntF H L p k = 0
  | 0, k, h => by
    unfold cntF
    rw [if_neg]
    intro e
    subst e
    rcases h with h | h
    · omega
    · simp [lenC] at h
  | p + 1, k, h => by
    unfold cntF nextC
    split
    · rename_i hab
      have sl := span_low H L p (by omega)
      refine sum_zero _ _ fun j hj => cnt_zero H L p (k - j) ?_
      have := mem_rgN.mp hj
      have hb : (((spanF H L p).2 - (spanF H L p).1 + 1).toNat : Int) = (spanF H L p).2 - (spanF H L p).1 + 1 := by omega
      rw [hb] at this
      simp only [lenC] at h
      rcases h with h | h
      · left; omega
      · right; omega
    · rfl
theorem tab_take (f : Int → Int) {m j : Nat} (h : j ≤ m) : (tab f m).take j = tab f j := by
  unfold tab
  obtain ⟨d, rfl⟩ : ∃ d, m = j + d := ⟨m - j, by omega⟩
  rw [rgN_split, List.map_append, List.take_left' (by simp [rgN_len])]
theorem sums_at (f : Int → Int) (m : Nat) (x : Int) : oIx (.lst ((0 :: psum 0 (tab f m)).map D.int)) (.int (min (m : Int) (max 0 x))) = .ok (.int (clipS f m x)) := by
  obtain ⟨j, hj⟩ : ∃ j : Nat, min (m : Int) (max 0 x) = j := ⟨(min (m : Int) (max 0 x)).toNat, by omega⟩
  have hjm : j ≤ m := by omega
  have e := psum_get (tab f m) 0 j (by rw [tab_len]; exact hjm)
  rw [tab_take f hjm] at e
  rw [hj]
  refine ix_lst ?_
  have e2 : min m (max 0 x).toNat = j := by omega
  have e3 : (((0 : Int) :: psum 0 (tab f m)).map D.int)[j]? = some (.int (clipS f m x)) := by
    rw [List.getElem?_map, e]
    unfold clipS
    rw [e2]
    simp [tab]
  exact atI_nat e3
theorem later_loop (f : Int → Int) (m : Nat) (h0 : ∀ x, x < 0 ∨ (m : Int) ≤ x → f x = 0) (hm : m ≤ 3000) (e0 e1 : VE) (p : Nat) (ab : Int × Int) (hab : 0 ≤ ab.1 ∧ ab.2 ≤ p) (n : Nat) (hn : n ≤ 5000) (d7 d9 d10 : VE) :
    ∃ f7 f9 f10, forGo (.nm 7) B_counts_of_2 ((rgN 0 n).map D.int) [e0, e1, .sh (Li (tab f m)), .sh (.int p), .sh (.int ab.1), .sh (.int ab.2), .ow ((0 :: psum 0 (tab f m)).map D.int), d7, .ow [], d9, d10] = .ok (.nx [e0, e1, .sh (Li (tab f m)), .sh (.int p), .sh (.int ab.1), .sh (.int ab.2), .ow ((0 :: psum 0 (tab f m)).map D.int), f7, .ow ((tab (nextC f p ab) n).map D.int), f9, f10]) := by
  obtain ⟨σ', e, f7, f9, f10, rfl⟩ := forGo_inv (j := 7) (S := B_counts_of_2) D.int (fun k σ => ∃ f7 f9 f10, σ = [e0, e1, .sh (Li (tab f m)), .sh (.int p), .sh (.int ab.1), .sh (.int ab.2), .ow ((0 :: psum 0 (tab f m)).map D.int), f7, .ow ((tab (nextC f p ab) k).map D.int), f9, f10]) (rgN 0 n) 0
    [e0, e1, .sh (Li (tab f m)), .sh (.int p), .sh (.int ab.1), .sh (.int ab.2), .ow ((0 :: psum 0 (tab f m)).map D.int), d7, .ow [], d9, d10] ⟨d7, d9, d10, rfl⟩ (by
      rintro i x σ hx ⟨f7, f9, f10, rfl⟩
      obtain ⟨hi, hx⟩ := rgN_get hx
      obtain rfl : x = (i : Int) := by omega
      rw [Nat.zero_add]
      have s1 := sums_at f m ((i : Int) - ((p : Int) - ab.2) + 1)
      have s2 := sums_at f m ((i : Int) - ((p : Int) - ab.1))
      have hl : (tab (nextC f p ab) i).length < 100000 := by rw [tab_len]; omega
      have val : (if ab.1 ≤ ab.2 then clipS f m ((i : Int) - ((p : Int) - ab.2) + 1) - clipS f m ((i : Int) - ((p : Int) - ab.1)) else 0) = nextC f p ab i := by
        unfold nextC
        split
        · rename_i hle
          rw [clip_sum h0 i ((p : Int) - ab.2)]
          have : (i : Int) - ((p : Int) - ab.2) - (((ab.2 - ab.1 + 1).toNat : Nat) : Int) + 1 = (i : Int) - ((p : Int) - ab.1) := by omega
          rw [this]
        · rfl
      have snoc : (tab (nextC f p ab) i).map D.int ++ [.int (nextC f p ab i)] = (tab (nextC f p ab) (i + 1)).map D.int := by
        unfold tab
        rw [rgN_snoc]
        simp
      refine ⟨_, ?_, .sh (.int i), .sh (.int (min (m : Int) (max 0 ((i : Int) - ((p : Int) - ab.2) + 1)))), .sh (.int (min (m : Int) (max 0 ((i : Int) - ((p : Int) - ab.1))))), rfl⟩
      rw [← snoc, ← val]
      by_cases hle : ab.1 ≤ ab.2
      · simp [B_counts_of_2, T_counts_of_2, T_counts_of_1, hdE_cons, frE_cons, tab_len, max_two, min_two, hle, s1, s2]
        simp only [List.map_cons] at s1 s2
        simp [s1, s2, tab_len, show i < 100000 by omega]
      · simp [B_counts_of_2, T_counts_of_2, T_counts_of_1, hdE_cons, frE_cons, tab_len, max_two, min_two, hle, show i < 100000 by omega])
  exact ⟨f7, f9, f10, by simpa [rgN_len] using e⟩

theorem lenC_bound {p : Nat} (h : p ≤ 60) : lenC p ≤ 2500 := (by decide : ∀ p, p < 61 → lenC p ≤ 2500) p (by omega)
theorem counts_step (H L : Wl) (p : Nat) (hp : p < 60) (e0 e1 d3 d4 d5 d6 d7 d8 d9 d10 : VE) :
    ∃ f3 f4 f5 f6 f7 f8 f9 f10, B_counts_of_3 [e0, e1, .sh (Li (tab (cntF H L p) (lenC p))), .sh (.int p), .sh (.int (spanF H L p).1), .sh (.int (spanF H L p).2), d6, d7, d8, d9, d10] = .ok (.nx [e0, e1, .sh (Li (tab (cntF H L (p + 1)) (lenC (p + 1)))), f3, f4, f5, f6, f7, f8, f9, f10]) := by
  have hb := lenC_bound (p := p) (by omega)
  obtain ⟨f7, e7⟩ := sums_loop e0 e1 (.sh (Li (tab (cntF H L p) (lenC p)))) (.sh (.int p)) (.sh (.int (spanF H L p).1)) (.sh (.int (spanF H L p).2)) d8 d9 d10 (tab (cntF H L p) (lenC p)) [] 0 d7 (by rw [tab_len]; simp; omega)
  have sl := span_low H L p (by omega)
  obtain ⟨g7, g9, g10, e8⟩ := later_loop (cntF H L p) (lenC p) (cnt_zero H L p) (by omega) e0 e1 p (spanF H L p) sl (lenC p + p) (by omega) f7 d9 d10
  simp only [List.nil_append] at e7
  have r1 : -1000000 ≤ ((lenC p : Int) + p) ∧ ((lenC p : Int) + p) ≤ 1000000 := by omega
  have tn : ((lenC p : Int) + (p : Int)).toNat = lenC p + p := by omega
  have rr := rg1_ok r1
  rw [tn] at rr
  refine ⟨.sh (.int p), .sh (.int (spanF H L p).1), .sh (.int (spanF H L p).2), .ow ((0 :: psum 0 (tab (cntF H L p) (lenC p))).map D.int), g7, .sh (Li (tab (nextC (cntF H L p) p (spanF H L p)) (lenC p + p))), g9, g10, ?_⟩
  have st : B_counts_of_3 [e0, e1, .sh (Li (tab (cntF H L p) (lenC p))), .sh (.int p), .sh (.int (spanF H L p).1), .sh (.int (spanF H L p).2), d6, d7, d8, d9, d10] = T_counts_of_4 [e0, e1, .sh (Li (tab (cntF H L p) (lenC p))), .sh (.int p), .sh (.int (spanF H L p).1), .sh (.int (spanF H L p).2), .ow ([0].map D.int), d7, d8, d9, d10] := by
    simp [B_counts_of_3, hdE_cons]
  rw [st]
  simp only [T_counts_of_4, ap_Seq, ap_sFor, ap_iOf, hdE_cons, hd_sh, var_s, var_0, R.bind_ok, it_lst, e7, ap_thenNx, ap_sAsgNH, ap_Lst, ap_aNil, List.length_nil, Nat.zero_le, if_true, List.set_cons_succ, List.set_cons_zero, T_counts_of_3, ap_CallN, ap_aCons, ap_Op, ap_Call, len_lst, List.length_map, tab_len, add_int, rr, e8]
  simp only [ap_sFrz, List.getElem?_cons_succ, List.getElem?_cons_zero, List.set_cons_succ, List.set_cons_zero, ap_sAsgH, hdE_cons, hd_sh, var_s, var_0, R.bind_ok]
  rfl
theorem counts_loop (H L : Wl) (e0 e1 : VE) : ∀ (n p : Nat) (d3 d4 d5 d6 d7 d8 d9 d10 : VE), p + n ≤ 60 → ∃ f3 f4 f5 f6 f7 f8 f9 f10, forGo (.tp (.cons (.nm 3) (.cons (.tp (.cons (.nm 4) (.cons (.nm 5) .nil))) .nil))) B_counts_of_3 ((rgN p n).map fun q => .tup [.int q, pD (spanF H L q)]) [e0, e1, .sh (Li (tab (cntF H L p) (lenC p))), d3, d4, d5, d6, d7, d8, d9, d10] = .ok (.nx [e0, e1, .sh (Li (tab (cntF H L (p + n)) (lenC (p + n)))), f3, f4, f5, f6, f7, f8, f9, f10])
  | 0, p, d3, d4, d5, d6, d7, d8, d9, d10, _ => ⟨d3, d4, d5, d6, d7, d8, d9, d10, rfl⟩
  | n + 1, p, d3, d4, d5, d6, d7, d8, d9, d10, h => by
    obtain ⟨a3, a4, a5, a6, a7, a8, a9, a10, ea⟩ := counts_step H L p (by omega) e0 e1 d3 d4 d5 d6 d7 d8 d9 d10
    obtain ⟨f3, f4, f5, f6, f7, f8, f9, f10, e⟩ := counts_loop H L e0 e1 n (p + 1) a3 a4 a5 a6 a7 a8 a9 a10 (by omega)
    refine ⟨f3, f4, f5, f6, f7, f8, f9, f10, ?_⟩
    rw [rgN_succ, List.map_cons, for_step (as := [(3, .int p), (4, .int (spanF H L p).1), (5, .int (spanF H L p).2)]) (by simp) ea]
    have c : ((p : Int) + 1) = ((p + 1 : Nat) : Int) := by omega
    rw [c, e, show p + 1 + n = p + (n + 1) by omega]
theorem ev_counts_of (n : Nat) (H L : Wl) (h : n ≤ 60) : m_counts_of [.int n, Wi H L] = .ok (Li (tab (cntF H L n) (lenC n))) := by
  obtain ⟨f3, f4, f5, f6, f7, f8, f9, f10, e⟩ := counts_loop H L (.sh (.int n)) (.sh (Wi H L)) n 0 .un .un .un .un .un .un .un .un (by omega)
  have en : iEn (eNew (eCallN (callF 2 m_spans) (aCons (eVar 0) (aCons (eVar 1) aNil)))) [some (.int (n : Int)), some (Wi H L), some (.lst [.int 1]), none, none, none, none, none, none, none, none] = .ok ((rgN 0 n).map fun p => .tup [.int p, pD (spanF H L p)]) := by
    unfold iEn
    simp [ev_spans n H L (by omega), enum_spans]
  have t0 : Li (tab (cntF H L 0) (lenC 0)) = .lst [.int 1] := rfl
  rw [t0, Nat.zero_add] at e
  have e' : forGo (.tp (.cons (.nm 3) (.cons (.tp (.cons (.nm 4) (.cons (.nm 5) .nil))) .nil))) B_counts_of_3 ((rgN 0 n).map fun q => .tup [.int q, pD (spanF H L q)]) [.sh (.int n), .sh (Wi H L), .sh (.lst [.int 1]), .un, .un, .un, .un, .un, .un, .un, .un] = _ := e
  simp [m_counts_of, S_counts_of, T_counts_of_5, runX, initS, List.replicate, en, e']
theorem ev_how_many_with (n : Nat) (H L : Wl) (k : Int) (h1 : 1 ≤ n) (h2 : n ≤ 60) (hw : (okW n H && okW n L) = true) (hk : 0 ≤ k) : m_how_many_with [.int n, Wi H L, .int k] = .ok (.int (cntF H L n k)) := by
  obtain ⟨sH, sL⟩ := okW_shorts hw (by omega)
  have e1 : m_check_things [.int (n : Int)] = .ok .non := by rw [ev_things, if_pos (by omega)]
  have e2 := ev_check_wish n H L sH sL
  rw [hw, if_pos rfl] at e2
  by_cases hl : k < (lenC n : Int)
  · have ix : oIx (.lst ((tab (cntF H L n) (lenC n)).map D.int)) (.int k) = .ok (.int (cntF H L n k)) := by
      have hk2 : k.toNat < (tab (cntF H L n) (lenC n)).length := by rw [tab_len]; omega
      have := ix_ints hk2
      rw [show ((k.toNat : Nat) : Int) = k by omega] at this
      rw [this]
      congr 2
      have g := List.getElem?_eq_getElem hk2
      rw [tab_get (by omega)] at g
      rw [← Option.some.inj g, show ((k.toNat : Nat) : Int) = k by omega]
    simp [m_how_many_with, S_how_many_with, T_how_many_with_4, T_how_many_with_3, T_how_many_with_2, T_how_many_with_1, runX, initS, List.replicate, e1, e2, ev_number_ok hk, ev_counts_of n H L h2, tab_len, hl, ix]
  · rw [cnt_zero H L n k (.inr (by omega))]
    simp [m_how_many_with, S_how_many_with, T_how_many_with_4, T_how_many_with_3, T_how_many_with_2, T_how_many_with_1, runX, initS, List.replicate, e1, e2, ev_number_ok hk, ev_counts_of n H L h2, tab_len, hl]
end DL
/-! just -/
namespace DL
open PySem L2
def justR (left : Int) : List (Int × Int) → List Int
  | [] => []
  | q :: r => (q.2 - min left (q.2 - q.1)) :: justR (left - min left (q.2 - q.1)) r
theorem just_loop (e0 e1 e2 e3 e4 : VE) : ∀ (xs : List (Int × Int)) (left : Int) (l : List Int) (d7 d8 d9 : VE), l.length + xs.length ≤ 1000 → ∃ f5 f7 f8 f9, forGo (.tp (.cons (.nm 7) (.cons (.nm 8) .nil))) B_just_1 (xs.map pD) [e0, e1, e2, e3, e4, .sh (.int left), .ow (l.map D.int), d7, d8, d9] = .ok (.nx [e0, e1, e2, e3, e4, .sh (.int f5), .ow ((l ++ justR left xs).map D.int), f7, f8, f9])
  | [], left, l, d7, d8, d9, _ => ⟨left, d7, d8, d9, by simp [justR, for_nil]⟩
  | q :: xs, left, l, d7, d8, d9, h => by
    simp only [List.length_cons] at h
    obtain ⟨f5, f7, f8, f9, e⟩ := just_loop e0 e1 e2 e3 e4 xs (left - min left (q.2 - q.1)) (l ++ [q.2 - min left (q.2 - q.1)]) (.sh (.int q.1)) (.sh (.int q.2)) (.sh (.int (min left (q.2 - q.1)))) (by simp; omega)
    refine ⟨f5, f7, f8, f9, ?_⟩
    have hl : l.length < 100000 := by omega
    have step : B_just_1 [e0, e1, e2, e3, e4, .sh (.int left), .ow (l.map D.int), .sh (.int q.1), .sh (.int q.2), d9] = .ok (.nx [e0, e1, e2, e3, e4, .sh (.int (left - min left (q.2 - q.1))), .ow ((l ++ [q.2 - min left (q.2 - q.1)]).map D.int), .sh (.int q.1), .sh (.int q.2), .sh (.int (min left (q.2 - q.1)))]) := by
      simp [B_just_1, T_just_1, hdE_cons, frE_cons, min_two, hl]
    rw [List.map_cons, for_step (as := [(7, .int q.1), (8, .int q.2)]) (by simp) step, e]
    simp [justR]
theorem justR_len : ∀ (xs : List (Int × Int)) (left : Int), (justR left xs).length = xs.length
  | [], _ => rfl
  | q :: xs, left => by simp [justR, justR_len xs]
theorem ev_just (n : Nat) (H L : Wl) (k : Int) (h1 : 1 ≤ n) (h2 : n ≤ 60) (hw : (okW n H && okW n L) = true) (hk : 0 ≤ k) (hb : barF n H L = none) : m_just [.int n, Wi H L, .int k] = .ok (if fewF n H L ≤ k ∧ k ≤ mostF n H L then withD (rowBy (justR (k - fewF n H L) (spansF n H L))) else beyD (fewF n H L) (mostF n H L)) := by
  obtain ⟨sH, sL⟩ := okW_shorts hw (by omega)
  have e1 : m_check_things [.int (n : Int)] = .ok .non := by rw [ev_things, if_pos (by omega)]
  have e2 := ev_check_wish n H L sH sL
  rw [hw, if_pos rfl] at e2
  have b := ev_bounds_of n H L (by omega)
  have st : m_just [.int n, Wi H L, .int k] = (T_just_5 [.sh (.int n), .sh (Wi H L), .sh (.int k), .sh (.int (fewF n H L)), .sh (.int (mostF n H L)), .un, .un, .un, .un, .un]).bind outX := by
    simp [m_just, S_just, T_just_9, T_just_8, T_just_7, T_just_6, runX, initS, List.replicate, e1, e2, ev_number_ok hk, ev_bar_of n H L (by omega), hb, optD, b]
  rw [st]
  by_cases c1 : fewF n H L ≤ k
  · by_cases c2 : k ≤ mostF n H L
    · obtain ⟨f5, f7, f8, f9, e⟩ := just_loop (.sh (.int n)) (.sh (Wi H L)) (.sh (.int k)) (.sh (.int (fewF n H L))) (.sh (.int (mostF n H L))) (spansF n H L) (k - fewF n H L) [] .un .un .un (by rw [spansF_len]; simp; omega)
      simp only [List.map_nil, List.nil_append] at e
      have rb := ev_row_by_ranks (rs := justR (k - fewF n H L) (spansF n H L)) (by rw [justR_len, spansF_len]; omega)
      rw [if_pos ⟨c1, c2⟩]
      simp [T_just_5, T_just_4, T_just_3, T_just_2, c1, c2, ev_spans n H L (by omega), e, frE_cons, rb, mk_With]
    · have : ¬ (fewF n H L ≤ k ∧ k ≤ mostF n H L) := fun z => c2 z.2
      rw [if_neg this]
      simp [T_just_5, c1, c2, mk_Beyond]
  · have : ¬ (fewF n H L ≤ k ∧ k ≤ mostF n H L) := fun z => c1 z.1
    rw [if_neg this]
    simp [T_just_5, c1, mk_Beyond]
/-! what it tells -/
theorem justR_get : ∀ (xs : List (Int × Int)) (left : Int), 0 ≤ left → (∀ q ∈ xs, q.1 ≤ q.2) → ∀ (i : Nat) (r : Int) (q : Int × Int), (justR left xs)[i]? = some r → xs[i]? = some q → q.1 ≤ r ∧ r ≤ q.2
  | [], left, _, _, i, r, q, h, _ => by simp [justR] at h
  | q0 :: xs, left, hl, hx, 0, r, q, h, hq => by
    simp [justR] at h hq
    subst hq; subst h
    have := hx q0 List.mem_cons_self
    omega
  | q0 :: xs, left, hl, hx, i + 1, r, q, h, hq => by
    simp only [justR, List.getElem?_cons_succ] at h hq
    have := hx q0 List.mem_cons_self
    exact justR_get xs _ (by omega) (fun q hq => hx q (List.mem_cons_of_mem _ hq)) i r q h hq
theorem justR_sum : ∀ (xs : List (Int × Int)) (left : Int), 0 ≤ left → (∀ q ∈ xs, q.1 ≤ q.2) → left ≤ (xs.map fun q => q.2 - q.1).sum → (justR left xs).sum = (xs.map (·.2)).sum - left
  | [], left, h0, _, h => by simp [justR] at h ⊢; omega
  | q :: xs, left, h0, hx, h => by
    have hq := hx q List.mem_cons_self
    have nn : ∀ ys : List (Int × Int), (∀ q ∈ ys, q.1 ≤ q.2) → 0 ≤ (ys.map fun q => q.2 - q.1).sum := by
      intro ys
      induction ys with
      | nil => intro _; simp
      | cons y ys ih =>
        intro hy
        rw [List.map_cons, List.sum_cons]
        have := hy y List.mem_cons_self
        have := ih fun z hz => hy z (List.mem_cons_of_mem _ hz)
        omega
    have n0 := nn xs fun q hq => hx q (List.mem_cons_of_mem _ hq)
    rw [List.map_cons, List.sum_cons] at h
    have ih := justR_sum xs (left - min left (q.2 - q.1)) (by omega) (fun q hq => hx q (List.mem_cons_of_mem _ hq)) (by omega)
    rw [justR, List.sum_cons, ih, List.map_cons, List.sum_cons]
    omega
end DL
/-! more rules of the hand layer: sorted(xs) of a list of lists of ints -/
namespace HX
open PySem PySem.Spec PyProof.Rows L2
/-- sorted(xs), lists of ints, any number of them -/
def rSortedL (K : PySem.W.Frag) : List V → Hp → VK → Prop := fun vs H Q => ∃ (a : Addr) (bs : List (V × List Int)), vs = [V.ref a] ∧ SqL K H a (bs.map (·.1)) ∧
  (∀ b ∈ bs, Dp K H b.1 (.list (b.2.map .int))) ∧
  ∀ (p : Addr), H p = none → Q (.ref p) (upd H p (.lst ((bs.mergeSort fun p q => decide (p.2 ≤ q.2)).map (·.1))))
theorem each_of {X : Cx} {pins : List (Addr × Obj)} {σ : L2.St} {H : Hp} {s : Shared} (I : Inv X pins σ H s) : ∀ (bs : List (V × List Int)) (us : List Value), Vals (bs.map (·.1)) us → (∀ b ∈ bs, Dp X.K H b.1 (.list (b.2.map .int))) →
    PySem.W.EachIs (fun v (b : V × List Int) => RelV b.1 v) us bs ∧ PySem.W.EachIs (fun v (b : V × List Int) => ∃ as, Reads s.heap v (PyData.list (b.2.map PyData.int)) as) us bs
  | [], us, r, _ => by
    cases r
    exact ⟨.nil, .nil⟩
  | b :: bs, us, r, h => by
    cases r with
    | cons r1 r2 =>
      obtain ⟨e1, e2⟩ := each_of I bs _ r2 fun c hc => h c (List.mem_cons_of_mem _ hc)
      exact ⟨.cons r1 e1, .cons (Dp.reads I _ _ _ (h b List.mem_cons_self) r1) e2⟩
theorem vals_of_each : ∀ {us : List Value} {bs : List (V × List Int)}, PySem.W.EachIs (fun v (b : V × List Int) => RelV b.1 v) us bs → Vals (bs.map (·.1)) us
  | _, _, .nil => .nil
  | _, _, .cons r e => .cons r (vals_of_each e)
theorem alikeAll_ints : ∀ xs ys : List Int, PySem.W.alikeAll (xs.map PyData.int) (ys.map PyData.int) = true
  | [], _ => by simp only [List.map_nil]; rw [PySem.W.alikeAll]
  | _ :: _, [] => by simp only [List.map_nil, List.map_cons]; rw [PySem.W.alikeAll]
  | x :: xs, y :: ys => by
    simp only [List.map_cons]
    rw [PySem.W.alikeAll, PySem.W.alike, alikeAll_ints xs ys]
    rfl
theorem depth_ints : ∀ xs : List Int, PyData.depthAll (xs.map PyData.int) ≤ 4
  | [] => by rw [List.map_nil, PyData.depthAll]; omega
  | x :: xs => by
    have := depth_ints xs
    rw [List.map_cons, PyData.depthAll, PyData.depth]
    omega
section
variable {X : Cx}
theorem cr_sortedL (hu : X.A.units + 64 < cLine) : CallR X (.builtin "sorted") (rSortedL X.K) := by
  intro pins s σ H vs us Q I r h
  obtain ⟨a, bs, rfl, hs, hd, q⟩ := h
  obtain ⟨its, rv, hl, hz⟩ := I.list hs
  rw [Vals.ref1 r]
  obtain ⟨e1, e2⟩ := each_of I bs its rv hd
  refine PySem.W.sorted_data (enc := fun b : V × List Int => PyData.list (b.2.map PyData.int)) hl.isList e1 e2 (PySem.W.AllAlike.of fun b b' => ?_) (PySem.W.Sortable.others fun b => ⟨by simp, fun xs => by simp⟩) (by rw [← List.length_map (f := (·.1)), rv.length]; rw [← rv.length]; exact hz) (fun b hb => ?_) fun out hlo ho => ?_
  · show PySem.W.alike (.list _) (.list _) = true
    rw [PySem.W.alike]
    exact alikeAll_ints _ _
  · have := depth_ints b.2
    show X.A.units + 2 + (PyData.list (b.2.map PyData.int)).depth < cLine
    rw [PyData.depth]
    omega
  · rw [PySem.W.dataLe_rows] at ho
    obtain ⟨ep, he'⟩ := PyProof.Rows.sortedAll_at s.heap its out.toArray
    have hlen : ((bs.mergeSort fun p q => decide (p.2 ≤ q.2)).map (·.1)).length ≤ sizeLine := by
      rw [List.length_map, List.length_mergeSort]
      rw [List.length_map] at hz
      exact hz
    exact ⟨.ref _, upd H (s.heap.objs.size + 1) (.lst ((bs.mergeSort fun p q => decide (p.2 ≤ q.2)).map (·.1))), I.laid (t' := s.toks) (fun _ _ => PyProof.Rows.sortedAll_old) (Nat.le_succ _) ⟨hlen, out, ep, vals_of_each ho, he'⟩, rfl, q _ (I.hok.fresh (Nat.le_succ _))⟩
end
end HX
/-! The data layer: sorted(xs) of rows. -/
namespace DL
open PySem L2
def rowsOf : List D → Option (List (List Int))
  | [] => some []
  | .lst ds :: r => match intsOf ds, rowsOf r with
    | some ns, some rs => some (ns :: rs)
    | _, _ => none
  | _ => none
theorem rowsOf_map : ∀ rs : List (List Int), rowsOf (rs.map fun r => .lst (r.map D.int)) = some rs
  | [] => rfl
  | r :: rs => by simp only [List.map_cons, rowsOf, intsOf_map, rowsOf_map rs]
theorem rowsOf_eq : ∀ {ds : List D} {rs : List (List Int)}, rowsOf ds = some rs → ds = rs.map fun r => .lst (r.map D.int)
  | [], rs, h => by cases h; rfl
  | .lst es :: r, rs, h => by
    simp only [rowsOf] at h
    cases h1 : intsOf es with
    | none => rw [h1] at h; simp at h
    | some ns =>
      cases h2 : rowsOf r with
      | none => rw [h1, h2] at h; simp at h
      | some qs =>
        rw [h1, h2] at h
        cases h
        rw [List.map_cons, ← rowsOf_eq h2, ← intsOf_eq h1]
  | .non :: _, _, h => by simp [rowsOf] at h
  | .bl _ :: _, _, h => by simp [rowsOf] at h
  | .int _ :: _, _, h => by simp [rowsOf] at h
  | .str _ :: _, _, h => by simp [rowsOf] at h
  | .tup _ :: _, _, h => by simp [rowsOf] at h
  | .scr _ :: _, _, h => by simp [rowsOf] at h
  | .obj _ _ _ :: _, _, h => by simp [rowsOf] at h
  | .opq _ :: _, _, h => by simp [rowsOf] at h
def sortRows (rs : List (List Int)) : List (List Int) := rs.mergeSort fun p q => decide (p ≤ q)
def oSortedL : List D → R (List D)
  | [.lst ds] => match rowsOf ds with
    | some rs => .ok ((sortRows rs).map fun r => .lst (r.map D.int))
    | none => .bad
  | _ => .bad
section
variable {X : Cx} {E : XK}
theorem Rps.zipRows {K : PySem.W.Frag} {mg : Str → Option Value} {F : Hp} : ∀ {vs : List V} {rs : List (List Int)}, Rps K mg F vs (rs.map fun r => .lst (r.map D.int)) → ∃ bs : List (V × List Int), vs = bs.map (·.1) ∧ rs = bs.map (·.2) ∧ ∀ b ∈ bs, Rp K mg F b.1 (.lst (b.2.map D.int))
  | vs, [], h => by
    cases h
    exact ⟨[], rfl, rfl, fun _ hb => absurd hb (by simp)⟩
  | vs, r :: rs, h => by
    cases h with
    | cons h1 h2 =>
      obtain ⟨bs, rfl, rfl, hb⟩ := Rps.zipRows h2
      exact ⟨(_, r) :: bs, rfl, rfl, fun b hb' => by
        rcases List.mem_cons.mp hb' with rfl | m
        · exact h1
        · exact hb b m⟩
theorem Rps.ofZip {K : PySem.W.Frag} {mg : Str → Option Value} {F : Hp} : ∀ {bs : List (V × List Int)}, (∀ b ∈ bs, Rp K mg F b.1 (.lst (b.2.map D.int))) → Rps K mg F (bs.map (·.1)) ((bs.map (·.2)).map fun r => .lst (r.map D.int))
  | [], _ => .nil
  | b :: bs, h => .cons (h b List.mem_cons_self) (Rps.ofZip fun c hc => h c (List.mem_cons_of_mem _ hc))
theorem toPy_ints (ns : List Int) : toPy (.lst (ns.map D.int)) = some (.list (ns.map .int)) := by
  rw [toPy, toPys_ints]
  rfl
theorem cd_sortedL : CallDN X E (HX.rSortedL X.K) oSortedL := fun F H vs ds Q fh r fin => by
  match ds, r, fin with
  | [.lst ds], .cons (.lst h q) .nil, fin =>
    have fin : FinN X.K X.mg E F H Q (match rowsOf ds with | some rs => .ok ((sortRows rs).map fun r => .lst (r.map D.int)) | none => .bad) := fin
    cases hi : rowsOf ds with
    | none => rw [hi] at fin; exact fin.elim
    | some rs =>
      rw [hi] at fin
      rw [rowsOf_eq hi] at q
      obtain ⟨bs, rfl, rfl, hb⟩ := q.zipRows
      refine ⟨_, bs, rfl, SqL.of (fh _ _ h), fun b m => ((hb b m).mono fh).dp (toPy_ints b.2), fun p hn => ?_⟩
      have e : ((bs.mergeSort fun p q => decide (p.2 ≤ q.2)).map (·.2)) = sortRows (bs.map (·.2)) := by
        unfold sortRows
        exact List.map_mergeSort fun _ _ _ _ => rfl
      refine fin _ _ _ _ (Stp.out fh hn) hn (fh.free hn) upd_same ?_
      rw [← e]
      exact Rps.ofZip fun b m => hb b ((List.mergeSort_perm _ _).mem_iff.mp m)
end
end DL
/-! more rules of the hand layer: list(range(a, b, c)) -/
namespace HX
open PySem PySem.Spec PyProof.Rows L2
def rgC (a c : Int) (n : Nat) : List V := (List.range n).map fun i => V.int (a + (i : Nat) * c)
theorem vals_rgC {a c : Int} {n : Nat} {acc : Array Value} (h : ItemsOf (fun i v => ∃ t, v = .int (a + i * c) t) acc n) : Vals (rgC a c n) acc.toList := by
  have e : acc.toList.length = n := by rw [Array.length_toList]; exact h.1
  unfold rgC
  rw [← e]
  refine vals_of_get acc.toList _ fun j u hj => ?_
  obtain ⟨t, rfl⟩ := h.2 j u (by rw [← hj, Array.getElem?_toList])
  exact ⟨t, rfl⟩
def tLstRg3 (ta : TA) : TE := fun σ H Q => ta σ H fun vs H1 => ∃ (i j c : Int) (n : Nat), vs = [.int i, .int j, .int c] ∧ RgC i j c n ∧ n ≤ 4000000 ∧ ∀ q, H1 q = none → Q (.ref q) (upd H1 q (.lst (rgC i c n)))
section
variable {X : Cx}
theorem pe_listRg3 {a b c : Expr} {ta : TA} {p p2 pos pos2 : Pos} (hc : X.calm = true) (hg : Gl X "list") (hm : X.mg "list" = none) (hg2 : Gl X "range") (hm2 : X.mg "range" = none) (ha : PA X [a, b, c] ta)
    (hs : starEach [a, b, c] X.env = (false, eval a X.env) :: starEach [b, c] X.env := by rfl) (hpl : (backTo pos2 (starEach [b, c] X.env)).any (·.1) = false := by rfl)
    (na : starEach [.Call (.Name "range" p2) [a, b, c] [] pos2] X.env = (false, eval (.Call (.Name "range" p2) [a, b, c] [] pos2) X.env) :: starEach [] X.env := by rfl) :
    PE X (.Call (.Name "list" p) [.Call (.Name "range" p2) [a, b, c] [] pos2] [] pos) (tLstRg3 ta) := by
  refine ⟨fun pins s σ H Q I h => ?_⟩
  have inner : wpAny (model X.prog X.w) X.A (eval (.Call (.Name "range" p2) [a, b, c] [] pos2) X.env) (fun x s' => ∃ r i j k t u v n H', x = .ref r ∧ IsRange s'.heap r i j k t u v ∧ Inv X pins σ H' s' ∧ RgC i j k n ∧ n ≤ 4000000 ∧ ∀ q, H' q = none → Q (.ref q) (upd H' q (.lst (rgC i k n)))) X.xe s := by
    refine Call_ (ld_blt I hg2 hm2 boot_range (PyProof.Rows.callWith_type1 (thn (ha.run pos2 pins s σ H _ I h) fun us s1 ⟨vs, H1, I1, r1, q1⟩ => ?_) hs hpl))
    obtain ⟨i, j, k, n, e, rc, hn, q⟩ := q1
    obtain ⟨c0, c1, c2, c3⟩ := rc
    subst e
    cases r1 with
    | cons r rr =>
      cases rr with
      | cons r' rr =>
        cases rr with
        | cons r'' rr =>
          cases rr
          obtain ⟨t, rfl⟩ := r
          obtain ⟨t', rfl⟩ := r'
          obtain ⟨t'', rfl⟩ := r''
          exact call_range_3 c0 ⟨_, i, j, k, _, _, _, n, H1, rfl, IsRange.new _ _ _ _ _ _ _, I1.kept fun b u e => Heap.get?_push_of_some _ e, ⟨c0, c1, c2, c3⟩, hn, q⟩ (Or.inl (PyProof.noPylong_small (by omega)))
  refine Call_ (ld_blt I hg hm boot_list (PyProof.Rows.callWith_type1 (args_cons (thn inner fun x s1 ⟨r, i, j, k, t, u, v, n, H1, ex, hr, I1, ok, hn, q⟩ => args_nil ?_) na) na))
  subst ex
  obtain ⟨b1, b2, b3, b4⟩ := ok
  refine call_list_range (n := n) (I1.ok.hd hc) hr b3 b4 (by omega) fun h' tk acc c' hk e' hi => ?_
  refine ⟨.ref s1.heap.objs.size, upd H1 s1.heap.objs.size (.lst (rgC i k n)), I1.laid hk (Nat.le_refl _) (show ObjOk X.prog X.w _ _ _ (.lst (rgC i k n)) from ⟨?_, acc.toList, c', vals_rgC hi, ?_⟩), rfl, q _ (I1.hok.fresh (Nat.le_refl _))⟩
  · unfold rgC; rw [List.length_map, List.length_range, sizeLine_eq]; omega
  · rw [Array.toArray_toList]; exact e'
end
end HX
/-! The data layer: list(range(a, b, c)), c one of 1, 2, 3. -/
namespace DL
open PySem L2
def rgSz (a b c : Int) : Nat := (if a < b then (b - a - 1) / c + 1 else 0).toNat
def rgS (a c : Int) (n : Nat) : List Int := (List.range n).map fun i => a + (i : Nat) * c
def oRange3 : List D → R (List D)
  | [.int a, .int b, .int c] => if rgOk a b ∧ (c = 1 ∨ c = 2 ∨ c = 3) then .ok ((rgS a c (rgSz a b c)).map D.int) else .bad
  | _ => .bad
theorem rgC_ok {a b c : Int} (h : rgOk a b) (hc : c = 1 ∨ c = 2 ∨ c = 3) : RgC a b c (rgSz a b c) ∧ rgSz a b c ≤ 4000000 := by
  obtain ⟨h1, h2, h3, h4⟩ := h
  have sz : Builtin.Range.rangeSize a b c = (rgSz a b c : Nat) := by
    unfold Builtin.Range.rangeSize rgSz
    rcases hc with rfl | rfl | rfl <;> (simp only [show (1 : Int) > 0 by decide, show (2 : Int) > 0 by decide, show (3 : Int) > 0 by decide, if_true]; split <;> omega)
  have le : rgSz a b c ≤ 4000000 := by
    unfold rgSz
    rcases hc with rfl | rfl | rfl <;> (split <;> omega)
  refine ⟨⟨by omega, by omega, ?_, sz⟩, le⟩
  unfold Builtin.Range.small
  rw [sz]
  simp only [Builtin.Range.rangeFitsLong, Bool.and_eq_true, Bool.or_eq_true, decide_eq_true_eq, beq_iff_eq]
  by_cases hab : a < b
  · have e : ((rgSz a b c : Nat) : Int) = (b - a - 1) / c + 1 := by
      unfold rgSz
      rw [if_pos hab]
      rcases hc with rfl | rfl | rfl <;> omega
    rw [e]
    rcases hc with rfl | rfl | rfl <;> (simp only [show (1 : Int) > 0 by decide, show (2 : Int) > 0 by decide, show (3 : Int) > 0 by decide, if_true, hab, Bool.and_eq_true, decide_eq_true_eq]; omega)
  · have e : ((rgSz a b c : Nat) : Int) = 0 := by
      unfold rgSz
      rw [if_neg hab]
      rfl
    rw [e]
    rcases hc with rfl | rfl | rfl <;> (simp only [show (1 : Int) > 0 by decide, show (2 : Int) > 0 by decide, show (3 : Int) > 0 by decide, if_true, hab, Bool.and_eq_true, decide_eq_true_eq]; omega)
section
variable {X : Cx} {E : XK} {a b c : Expr} {fs : Env → R (List D)}
theorem pn_listRg3 {p p2 pos pos2 : Pos} (hc : X.calm = true) (hg : Gl X "list") (hm : X.mg "list" = none) (hg2 : Gl X "range") (hm2 : X.mg "range" = none) (ha : PXs X E [a, b, c] fs)
    (hs : starEach [a, b, c] X.env = (false, eval a X.env) :: starEach [b, c] X.env := by rfl) (hpl : (backTo pos2 (starEach [b, c] X.env)).any (·.1) = false := by rfl)
    (na : starEach [.Call (.Name "range" p2) [a, b, c] [] pos2] X.env = (false, eval (.Call (.Name "range" p2) [a, b, c] [] pos2) X.env) :: starEach [] X.env := by rfl) :
    PN X E (.Call (.Name "list" p) [.Call (.Name "range" p2) [a, b, c] [] pos2] [] pos) (eCallN oRange3 fs) :=
  pe_weak (HX.pe_listRg3 hc hg hm hg2 hm2 ha hs hpl na) fun σ H Q ⟨F, ρ, fh, en, fin⟩ => tXs_stepN fh en fin fun vs ds F1 H1 s1 r1 fin1 => by
    match ds, r1, fin1 with
    | [.int m, .int n, .int c], .cons (.int _) (.cons (.int _) (.cons (.int _) .nil)), fin1 =>
      have fin2 : FinN X.K X.mg E F1 H1 Q (if rgOk m n ∧ (c = 1 ∨ c = 2 ∨ c = 3) then .ok ((rgS m c (rgSz m n c)).map D.int) else .bad) := fin1
      by_cases hl : rgOk m n ∧ (c = 1 ∨ c = 2 ∨ c = 3)
      · rw [if_pos hl] at fin2
        obtain ⟨rc, le⟩ := rgC_ok hl.1 hl.2
        refine ⟨m, n, c, _, rfl, rc, le, fun q hq => fin2 _ _ _ _ (Stp.out s1.fh hq) hq (s1.fh.free hq) upd_same ?_⟩
        have e : HX.rgC m c (rgSz m n c) = (rgS m c (rgSz m n c)).map V.int := by
          unfold HX.rgC rgS
          rw [List.map_map]
          rfl
        rw [e]
        exact Rps.ofInts _
      · rw [if_neg hl] at fin2
        exact fin2.elim
end
end DL
/-! the laws' drawn wishes -/
namespace DL
open PySem L2
def T__law_drawn_wish_1 : SEnv → R Out :=
  (sAsgH 6 (eNew (eOpN oCat (eVar 6) (eNew (eOpN oRep (eNew (eLst (aCons (eVar 9) aNil))) (eCall oIntOf (aCons (eOp oEq (eVar 11) (eC (.int 1))) aNil)))))))
def T__law_drawn_wish_2 : SEnv → R Out :=
  (sSeq (sAsgH 5 (eNew (eOpN oCat (eVar 5) (eNew (eOpN oRep (eNew (eLst (aCons (eVar 9) aNil))) (eCall oIntOf (aCons (eOp oEq (eVar 11) (eC (.int 0))) aNil)))))))
  T__law_drawn_wish_1)
def T__law_drawn_wish_3 : SEnv → R Out :=
  (sSeq (sAsgH 11 (eOp oMod (eOp oFdiv (eCall (callF 3 m__law_number) (aCons (eVar 10) (aCons (eOp oAdd (eVar 9) (eVar 1)) (aCons (eVar 4) aNil)))) (eC (.int 7))) (eIf (bE (eOp oEq (eVar 9) (eC (.int 1)))) (eC (.int 2)) (eC (.int 4)))))
  T__law_drawn_wish_2)
def B__law_drawn_wish_1 : SEnv → R Out :=
  (sSeq (sAsgH 10 (eOp oAdd (eOp oIx (eVar 3) (eOp oMod (eOp oAdd (eVar 9) (eOp oMul (eC (.int 2)) (eVar 1))) (eCall oLen (aCons (eVar 3) aNil)))) (eOp oMul (eC (.int 13)) (eVar 9))))
  T__law_drawn_wish_3)
def T__law_drawn_wish_4 : SEnv → R Out :=
  (sRet (eOp oIx (eTup (aCons (eTup (aCons (eVar 5) (aCons (eVar 6) aNil))) (aCons (eTup (aCons (eVar 5) (aCons (eVar 6) aNil))) (aCons (eTup (aCons (eVar 5) (aCons (eVar 6) aNil))) (aCons (eTup (aCons (eVar 5) (aCons (eC .non) aNil))) (aCons (eTup (aCons (eC .non) (aCons (eVar 6) aNil))) (aCons (eTup (aCons (eC .non) (aCons (eC .non) aNil))) aNil))))))) (eVar 8)))
def T__law_drawn_wish_5 : SEnv → R Out :=
  (sSeq (sIf (bE (eOp oEq (eVar 7) (eC (.int 1))))
  (sAsgH 6 (eNew (eUnN oSSet (eNew (eOpN oCat (eVar 6) (eNew (eLst (aCons (eVar 12) aNil))))))))
  sNext)
  T__law_drawn_wish_4)
def T__law_drawn_wish_6 : SEnv → R Out :=
  (sSeq (sIf (bE (eOp oEq (eVar 7) (eC (.int 0))))
  (sAsgH 5 (eNew (eLc (iOf (eVar 5)) (.nm 9) (bE (eOp oNe (eVar 9) (eVar 12))) (eVar 9) [9])))
  sNext)
  T__law_drawn_wish_5)
def T__law_drawn_wish_7 : SEnv → R Out :=
  (sSeq (sAsgH 12 (eOp oMod (eOp oFdiv (eVar 4) (eC (.int 11))) (eVar 2)))
  T__law_drawn_wish_6)
def T__law_drawn_wish_8 : SEnv → R Out :=
  (sSeq (sFor (eCallN rg2 (aCons (eC (.int 1)) (aCons (eVar 2) aNil))) (.nm 9)
  B__law_drawn_wish_1)
  T__law_drawn_wish_7)
def T__law_drawn_wish_9 : SEnv → R Out :=
  (sSeq (sPar [7, 8] (bsCons (bH (eOp oMod (eOp oFdiv (eCall (callF 3 m__law_number) (aCons (eVar 4) (aCons (eOp oAdd (eVar 1) (eC (.int 2))) (aCons (eC (.int 3)) aNil)))) (eC (.int 3))) (eC (.int 5)))) (bsCons (bH (eOp oMod (eOp oFdiv (eCall (callF 3 m__law_number) (aCons (eVar 4) (aCons (eOp oAdd (eVar 1) (eC (.int 3))) (aCons (eC (.int 3)) aNil)))) (eC (.int 5))) (eC (.int 6)))) bsNil)))
  T__law_drawn_wish_8)
def T__law_drawn_wish_10 : SEnv → R Out :=
  (sSeq (sPar [4, 5, 6] (bsCons (bH (eOp oAdd (eCall oSum (aCons (eVar 3) aNil)) (eVar 1))) (bsCons (bH (eNew (eLst (aCons (eC (.int 0)) aNil)))) (bsCons (bH (eNew (eLst (aCons (eC (.int 0)) aNil)))) bsNil))))
  T__law_drawn_wish_9)
def S__law_drawn_wish : SEnv → R Out :=
  (sSeq (sAsgH 3 (eIf (bE (eOp oNe (eVar 0) (eNew (eLst aNil)))) (eNew (eSl (eVar 0) pNo (pSome (eC (.int 63))))) (eNew (eLst (aCons (eC (.int 5)) aNil)))))
  T__law_drawn_wish_10)
def m__law_drawn_wish : List D → R D := runX 13 S__law_drawn_wish
/-- rising from 0, below k -/
def Upto (k : Int) (l : List Int) : Prop := l.Pairwise (· < ·) ∧ (∀ x ∈ l, 0 ≤ x ∧ x < k) ∧ (l.length : Int) ≤ k
theorem Upto.snoc {k : Int} {l : List Int} (h : Upto k l) (h0 : 0 ≤ k) : Upto (k + 1) (l ++ [k]) := by
  obtain ⟨h1, h2, h3⟩ := h
  refine ⟨List.pairwise_append.mpr ⟨h1, List.pairwise_singleton _ _, fun a ha b hb => ?_⟩, fun x hx => ?_, by simp; omega⟩
  · rw [List.mem_singleton.mp hb]; exact (h2 a ha).2
  · rcases List.mem_append.mp hx with hx | hx
    · have := h2 x hx; omega
    · rw [List.mem_singleton.mp hx]; omega
theorem Upto.more {k m : Int} {l : List Int} (h : Upto k l) (hm : k ≤ m) : Upto m l := ⟨h.1, fun x hx => by have := h.2.1 x hx; omega, by have := h.2.2; omega⟩
theorem rise_zip : ∀ {l : List Int}, l.Pairwise (· < ·) → ((l.zip l.tail).all fun p => decide (p.1 < p.2)) = true
  | [], _ => rfl
  | [_], _ => rfl
  | a :: b :: l, h => by
    have h' := List.pairwise_cons.mp h
    have ih := rise_zip h'.2
    simp only [List.tail_cons, List.zip_cons_cons, List.all_cons, Bool.and_eq_true, decide_eq_true_eq] at ih ⊢
    exact ⟨h'.1 b List.mem_cons_self, ih⟩
theorem Upto.places {n : Int} {l : List Int} (h : Upto n l) : okW n (some l) = true := by
  unfold okW isPlaces
  rw [Bool.and_eq_true]
  refine ⟨?_, rise_zip h.1⟩
  rw [List.all_eq_true]
  intro x hx
  have := h.2.1 x hx
  simp only [Bool.and_eq_true, decide_eq_true_eq]
  omega
theorem wish_step (e0 e2 e7 e8 e12 : VE) (b w : Int) (ns : List Int) (i : Nat) (h1 : 1 ≤ i) (h2 : i ≤ 1000) (hs ls : List Int) (Hh : Upto i hs) (Hl : Upto i ls) (d10 d11 : VE) :
    ∃ hs' ls' f10 f11, Upto ((i : Int) + 1) hs' ∧ Upto ((i : Int) + 1) ls' ∧ B__law_drawn_wish_1 [e0, .sh (.int b), e2, .sh (Li (cellsOf ns)), .sh (.int w), .sh (Li hs), .sh (Li ls), e7, e8, .sh (.int i), d10, d11, e12] = .ok (.nx [e0, .sh (.int b), e2, .sh (Li (cellsOf ns)), .sh (.int w), .sh (Li hs'), .sh (Li ls'), e7, e8, .sh (.int i), f10, f11, e12]) := by
  obtain ⟨c, hc⟩ := cell_at ns ((i : Int) + 2 * b)
  have m1 : oMul (.int 2) (.int b) = .ok (.int (2 * b)) := mulL (by decide)
  have m2 : oMul (.int 13) (.int (i : Int)) = .ok (.int (13 * (i : Int))) := mulL (by decide)
  have hlen : (0 : Int) < (cellsOf ns).length := by have := cells_pos ns; omega
  have m3 : oMod (.int ((i : Int) + 2 * b)) (.int ((cellsOf ns).length : Int)) = .ok (.int (((i : Int) + 2 * b) % ((cellsOf ns).length : Int))) := mod_int hlen
  obtain ⟨n, hn⟩ : ∃ n : Int, n = numF (c + 13 * (i : Int)) ((i : Int) + b) w / 7 := ⟨_, rfl⟩
  obtain ⟨t, ht⟩ : ∃ t : Int, t = n % (if (i : Int) = 1 then 2 else 4) := ⟨_, rfl⟩
  have lh : hs.length ≤ 1000 := by have := Hh.2.2; omega
  have ll : ls.length ≤ 1000 := by have := Hl.2.2; omega
  have st : B__law_drawn_wish_1 [e0, .sh (.int b), e2, .sh (Li (cellsOf ns)), .sh (.int w), .sh (Li hs), .sh (Li ls), e7, e8, .sh (.int i), d10, d11, e12] = T__law_drawn_wish_2 [e0, .sh (.int b), e2, .sh (Li (cellsOf ns)), .sh (.int w), .sh (Li hs), .sh (Li ls), e7, e8, .sh (.int i), .sh (.int (c + 13 * (i : Int))), .sh (.int t), e12] := by
    by_cases hi : (i : Int) = 1
    · rw [if_pos hi] at ht
      have hi' : i = 1 := by omega
      have q : oMod (.int n) (.int 2) = .ok (.int t) := by rw [ht]; exact mod_int (by decide)
      subst hi'
      simp [B__law_drawn_wish_1, T__law_drawn_wish_3, hdE_cons, frE_cons, m1, m2, m3, hc, ev_number, fdiv_int, ← hn, q] at hn m2 m3 hc ⊢
      simp [hdE_cons, frE_cons, m2, m3, hc, ev_number, fdiv_int, ← hn, q]
    · rw [if_neg hi] at ht
      have hi' : ¬ i = 1 := by omega
      have q : oMod (.int n) (.int 4) = .ok (.int t) := by rw [ht]; exact mod_int (by decide)
      simp [B__law_drawn_wish_1, T__law_drawn_wish_3, hdE_cons, frE_cons, m1, m2, m3, hc, ev_number, fdiv_int, ← hn, q, hi, hi']
  have r0 : oRep (.lst [.int (i : Int)]) (.int 0) = .ok [] := rfl
  have r1 : oRep (.lst [.int (i : Int)]) (.int 1) = .ok [.int (i : Int)] := rfl
  have ch0 : oCat (.lst (hs.map D.int)) (.lst []) = .ok (hs.map D.int) := by rw [cat_ok (by simp; omega)]; simp
  have cl0 : oCat (.lst (ls.map D.int)) (.lst []) = .ok (ls.map D.int) := by rw [cat_ok (by simp; omega)]; simp
  have ch1 : oCat (.lst (hs.map D.int)) (.lst [.int (i : Int)]) = .ok ((hs ++ [(i : Int)]).map D.int) := by rw [cat_ok (by simp; omega)]; simp
  have cl1 : oCat (.lst (ls.map D.int)) (.lst [.int (i : Int)]) = .ok ((ls ++ [(i : Int)]).map D.int) := by rw [cat_ok (by simp; omega)]; simp
  rw [st]
  have i0 : (0 : Int) ≤ i := by omega
  by_cases t0 : t = 0
  · refine ⟨hs ++ [(i : Int)], ls, .sh (.int (c + 13 * (i : Int))), .sh (.int t), Hh.snoc i0, Hl.more (by omega), ?_⟩
    simp [T__law_drawn_wish_2, T__law_drawn_wish_1, hdE_cons, oIntOf, t0, r0, r1, cl0, ch1]
  · by_cases t1 : t = 1
    · refine ⟨hs, ls ++ [(i : Int)], .sh (.int (c + 13 * (i : Int))), .sh (.int t), Hh.more (by omega), Hl.snoc i0, ?_⟩
      simp [T__law_drawn_wish_2, T__law_drawn_wish_1, hdE_cons, oIntOf, t1, r0, r1, ch0, cl1]
    · refine ⟨hs, ls, .sh (.int (c + 13 * (i : Int))), .sh (.int t), Hh.more (by omega), Hl.more (by omega), ?_⟩
      simp [T__law_drawn_wish_2, T__law_drawn_wish_1, hdE_cons, oIntOf, t0, t1, r0, ch0, cl0]
theorem wish_loop (e0 e2 e7 e8 e12 : VE) (b w : Int) (ns : List Int) : ∀ (k i : Nat) (hs ls : List Int) (d9 d10 d11 : VE), 1 ≤ i → i + k ≤ 1000 → Upto i hs → Upto i ls →
    ∃ hs' ls' f9 f10 f11, Upto ((i + k : Nat) : Int) hs' ∧ Upto ((i + k : Nat) : Int) ls' ∧ forGo (.nm 9) B__law_drawn_wish_1 ((rgN (i : Int) k).map D.int) [e0, .sh (.int b), e2, .sh (Li (cellsOf ns)), .sh (.int w), .sh (Li hs), .sh (Li ls), e7, e8, d9, d10, d11, e12] = .ok (.nx [e0, .sh (.int b), e2, .sh (Li (cellsOf ns)), .sh (.int w), .sh (Li hs'), .sh (Li ls'), e7, e8, f9, f10, f11, e12])
  | 0, i, hs, ls, d9, d10, d11, _, _, Hh, Hl => ⟨hs, ls, d9, d10, d11, Hh, Hl, rfl⟩
  | k + 1, i, hs, ls, d9, d10, d11, h1, h2, Hh, Hl => by
    obtain ⟨hs1, ls1, g10, g11, H1, L1, e1⟩ := wish_step e0 e2 e7 e8 e12 b w ns i h1 (by omega) hs ls Hh Hl d10 d11
    obtain ⟨hs', ls', f9, f10, f11, H2, L2, e⟩ := wish_loop e0 e2 e7 e8 e12 b w ns k (i + 1) hs1 ls1 (.sh (.int i)) g10 g11 (by omega) (by omega) (by simpa using H1) (by simpa using L1)
    have c : i + 1 + k = i + (k + 1) := by omega
    rw [c] at H2 L2
    refine ⟨hs', ls', f9, f10, f11, H2, L2, ?_⟩
    rw [rgN_succ, List.map_cons, for_step (as := [(9, .int i)]) (by simp) e1]
    exact e
theorem tup6 (a b c d e f : D) (k : Int) (h : 0 ≤ k ∧ k < 6) : oIx (.tup [a, b, c, d, e, f]) (.int k) = .ok (if k = 0 then a else if k = 1 then b else if k = 2 then c else if k = 3 then d else if k = 4 then e else f) := by
  have : k = 0 ∨ k = 1 ∨ k = 2 ∨ k = 3 ∨ k = 4 ∨ k = 5 := by omega
  rcases this with rfl | rfl | rfl | rfl | rfl | rfl <;> rfl
theorem sset_upto {n : Int} {l : List Int} (h : Upto n l) {a : Int} (ha : 0 ≤ a ∧ a < n) : okW n (some (sset (l ++ [a]))) = true := by
  unfold okW isPlaces
  rw [Bool.and_eq_true]
  refine ⟨?_, rise_zip (sset_sorted _)⟩
  rw [List.all_eq_true]
  intro x hx
  rw [sset_mem, List.mem_append, List.mem_singleton] at hx
  have : 0 ≤ x ∧ x < n := by
    rcases hx with hx | rfl
    · exact h.2.1 x hx
    · exact ha
  simp only [Bool.and_eq_true, decide_eq_true_eq]
  omega
theorem ev_drawn_wish (ns : List Int) (b : Int) (n : Nat) (h1 : 1 ≤ n) (h2 : n ≤ 60) : ∃ H L : Wl, (okW n H && okW n L) = true ∧ m__law_drawn_wish [.scr ns, .int b, .int n] = .ok (Wi H L) := by
  obtain ⟨w, hw⟩ : ∃ w : Int, w = (cellsOf ns).sum + b := ⟨_, rfl⟩
  obtain ⟨sp, hsp⟩ : ∃ s : Int, s = numF w (b + 2) 3 / 3 % 5 := ⟨_, rfl⟩
  obtain ⟨kd, hkd⟩ : ∃ s : Int, s = numF w (b + 3) 3 / 5 % 6 := ⟨_, rfl⟩
  have hk6 : 0 ≤ kd ∧ kd < 6 := by omega
  have u1 : Upto ((1 : Nat) : Int) [0] := ⟨List.pairwise_singleton _ _, fun x hx => by rw [List.mem_singleton.mp hx]; decide, by decide⟩
  obtain ⟨hs, ls, f9, f10, f11, Hh, Hl, e⟩ := wish_loop (.sh (.scr ns)) (.sh (.int n)) (.sh (.int sp)) (.sh (.int kd)) .un b w ns (n - 1) 1 [0] [0] .un .un .un (by decide) (by omega) u1 u1
  rw [show 1 + (n - 1) = n by omega] at Hh Hl
  obtain ⟨a, hA⟩ : ∃ a : Int, a = w / 11 % (n : Int) := ⟨_, rfl⟩
  have a0 : 0 ≤ a ∧ a < n := ⟨by rw [hA]; exact Int.emod_nonneg _ (by omega), by rw [hA]; exact Int.emod_lt_of_pos _ (by omega)⟩
  have rr : rg2 [.int 1, .int (n : Int)] = .ok ((rgN 1 (n - 1)).map D.int) := by
    rw [rg2_ok ⟨by omega, by omega, by omega, by omega⟩, show ((n : Int) - 1).toNat = n - 1 by omega]
  have md : oMod (.int (w / 11)) (.int (n : Int)) = .ok (.int a) := by rw [hA]; exact mod_int (by omega)
  have lh : hs.length ≤ 60 := by have := Hh.2.2; omega
  have ll : ls.length ≤ 60 := by have := Hl.2.2; omega
  have s1 : m__law_drawn_wish [.scr ns, .int b, .int n] = (T__law_drawn_wish_6 [.sh (.scr ns), .sh (.int b), .sh (.int n), .sh (Li (cellsOf ns)), .sh (.int w), .sh (Li hs), .sh (Li ls), .sh (.int sp), .sh (.int kd), f9, f10, f11, .sh (.int a)]).bind outX := by
    unfold m__law_drawn_wish runX S__law_drawn_wish
    simp only [Li, List.map_cons, List.map_nil] at e
    have e : forGo (.nm 9) B__law_drawn_wish_1 ((rgN 1 (n - 1)).map D.int) _ = _ := e
    simp [initS, List.replicate, T__law_drawn_wish_10, T__law_drawn_wish_9, T__law_drawn_wish_8, T__law_drawn_wish_7, hdE_cons, ev_number, fdiv_int, mod_int, ← hw, ← hsp, ← hkd, rr, e, md]
  have fin : ∀ (hs ls : List Int) (g9 : VE), okW n (some hs) = true → okW n (some ls) = true → ∃ H L : Wl, (okW n H && okW n L) = true ∧ (T__law_drawn_wish_4 [.sh (.scr ns), .sh (.int b), .sh (.int n), .sh (Li (cellsOf ns)), .sh (.int w), .sh (Li hs), .sh (Li ls), .sh (.int sp), .sh (.int kd), g9, f10, f11, .sh (.int a)]).bind outX = .ok (Wi H L) := by
    intro hs ls g9 qh ql
    have t := tup6 (.tup [Li hs, Li ls]) (.tup [Li hs, Li ls]) (.tup [Li hs, Li ls]) (.tup [Li hs, .non]) (.tup [.non, Li ls]) (.tup [.non, .non]) kd hk6
    have none0 : okW n none = true := rfl
    have : kd = 0 ∨ kd = 1 ∨ kd = 2 ∨ kd = 3 ∨ kd = 4 ∨ kd = 5 := by omega
    have key : ∀ d : D, oIx (.tup [.tup [Li hs, Li ls], .tup [Li hs, Li ls], .tup [Li hs, Li ls], .tup [Li hs, .non], .tup [.non, Li ls], .tup [.non, .non]]) (.int kd) = .ok d → (T__law_drawn_wish_4 [.sh (.scr ns), .sh (.int b), .sh (.int n), .sh (Li (cellsOf ns)), .sh (.int w), .sh (Li hs), .sh (Li ls), .sh (.int sp), .sh (.int kd), g9, f10, f11, .sh (.int a)]).bind outX = .ok d := by
      intro d hd
      simp only [Li] at hd
      simp [T__law_drawn_wish_4, frE_cons, hd]
    rcases this with h | h | h | h | h | h
    · exact ⟨some hs, some ls, by simp [qh, ql], key _ (by rw [t]; simp [h, Wi, wD])⟩
    · exact ⟨some hs, some ls, by simp [qh, ql], key _ (by rw [t]; simp [h, Wi, wD])⟩
    · exact ⟨some hs, some ls, by simp [qh, ql], key _ (by rw [t]; simp [h, Wi, wD])⟩
    · exact ⟨some hs, none, by simp [qh, none0], key _ (by rw [t]; simp [h, Wi, wD])⟩
    · exact ⟨none, some ls, by simp [ql, none0], key _ (by rw [t]; simp [h, Wi, wD])⟩
    · exact ⟨none, none, by simp [none0], key _ (by rw [t]; simp [h, Wi, wD])⟩
  rw [s1]
  by_cases h0 : sp = 0
  · have c1 : ¬ sp = 1 := by omega
    have lc : lcGo (.nm 9) (bE (eOp oNe (eVar 9) (eVar 12))) (eVar 9) [some (.scr ns), some (.int b), some (.int (n : Int)), some (Li (cellsOf ns)), some (.int w), some (Li hs), some (Li ls), some (.int sp), some (.int kd), none, f10.hd, f11.hd, some (.int a)] (hs.map D.int) = .ok ((hs.filter fun x => !decide (x = a)).map D.int) :=
      lc_nm D.int (fun x => !decide (x = a)) D.int hs (fun x _ => by simp) (fun x _ _ => by simp)
    have q : Upto n (hs.filter fun x => !decide (x = a)) := ⟨Hh.1.filter _, fun x hx => Hh.2.1 x (List.mem_filter.mp hx).1, by have := List.length_filter_le (fun x => !decide (x = a)) hs; have := Hh.2.2; omega⟩
    obtain ⟨H, L, ho, e2⟩ := fin (hs.filter fun x => !decide (x = a)) ls f9 q.places Hl.places
    refine ⟨H, L, ho, ?_⟩
    rw [← e2]
    simp only [h0] at lc ⊢
    simp only [Li] at lc
    simp [T__law_drawn_wish_6, T__law_drawn_wish_5, hdE_cons, frE_cons, h0, lc, show hs.length ≤ 100000 by omega]
  · by_cases h1' : sp = 1
    · have ss : oSSet (.lst ((ls ++ [a]).map D.int)) = .ok ((sset (ls ++ [a])).map D.int) := by
        simp only [oSSet, intsOf_map]
        rw [if_pos (by simp; omega)]
      have cc : oCat (.lst (ls.map D.int)) (.lst [.int a]) = .ok ((ls ++ [a]).map D.int) := by rw [cat_ok (by simp; omega)]; simp
      obtain ⟨H, L, ho, e2⟩ := fin hs (sset (ls ++ [a])) f9 Hh.places (sset_upto Hl a0)
      refine ⟨H, L, ho, ?_⟩
      rw [← e2]
      simp only [T__law_drawn_wish_6, T__law_drawn_wish_5]
      simp [-List.map_append, hdE_cons, frE_cons, h0, h1', cc, ss]
    · obtain ⟨H, L, ho, e2⟩ := fin hs ls f9 Hh.places Hl.places
      refine ⟨H, L, ho, ?_⟩
      rw [← e2]
      simp only [T__law_drawn_wish_6, T__law_drawn_wish_5]
      simp [hdE_cons, frE_cons, h0, h1']
end DL
/-! kept, by highs and lows; all rows -/
namespace DL
open PySem L2
def T__law_kept_1 : SEnv → R Out :=
  (sRet (eOr (eOp oIs (eOp oIx (eVar 1) (eC (.int 1))) (eC .non)) (eOp oEq (eNew (eCallN (callF 1 m__law_lows) (aCons (eVar 0) aNil))) (eOp oIx (eVar 1) (eC (.int 1))))))
def S__law_kept : SEnv → R Out :=
  (sSeq (sIf (bAnd (bE (eOp oIsNot (eOp oIx (eVar 1) (eC (.int 0))) (eC .non))) (bE (eOp oNe (eNew (eCallN (callF 1 m__law_highs) (aCons (eVar 0) aNil))) (eOp oIx (eVar 1) (eC (.int 0))))))
  (sRet (eC (.bl false)))
  sNext)
  T__law_kept_1)
def m__law_kept : List D → R D := runX 2 S__law_kept
def B__law_all_rows_1 : SEnv → R Out :=
  (sAppH 3 (eNew (eOpN oCat (eNew (eLc (iOf (eVar 4)) (.nm 6) bYes (eIf (bE (eOp oGe (eVar 6) (eVar 5))) (eOp oAdd (eVar 6) (eC (.int 1))) (eVar 6)) [6])) (eNew (eLst (aCons (eVar 5) aNil))))))
def B__law_all_rows_2 : SEnv → R Out :=
  (sFor (eCallN rg1 (aCons (eOp oAdd (eVar 2) (eC (.int 1))) aNil)) (.nm 5)
  B__law_all_rows_1)
def T__law_all_rows_1 : SEnv → R Out :=
  (sSeq (sFor (iOf (eVar 1)) (.nm 4)
  B__law_all_rows_2)
  (sFrz 3 (sAsgH 1 (eVar 3))))
def T__law_all_rows_2 : SEnv → R Out :=
  (sSeq (sFor (eCallN rg1 (aCons (eVar 0) aNil)) (.nm 2)
  (sSeq (sAsgNH 3 (eLst aNil))
  T__law_all_rows_1))
  (sRetN (eCallN oSortedL (aCons (eVar 1) aNil))))
def S__law_all_rows : SEnv → R Out :=
  (sSeq (sAsgH 1 (eNew (eLst (aCons (eNew (eLst aNil)) aNil))))
  T__law_all_rows_2)
def m__law_all_rows : List D → R (List D) := runN 7 S__law_all_rows
/-! ### spans, place by place -/
def hlOk (W : Wl) (p : Int) (b : Prop) : Prop := match W with
  | none => True
  | some xs => (p ∈ xs ↔ b)
theorem span_mem (H L : Wl) (p r : Int) (h0 : 0 ≤ r) (h1 : r ≤ p) : ((spanF H L p).1 ≤ r ∧ r ≤ (spanF H L p).2) ↔ (hlOk H p (r = p) ∧ hlOk L p (r = 0)) := by
  unfold spanF
  cases H with
  | none =>
    cases L with
    | none => simp only [spanH, spanL, hlOk, true_and]; constructor <;> (intro; first | trivial | omega)
    | some ls =>
      by_cases m : p ∈ ls
      · simp only [spanH, spanL, hlOk, m, if_true, true_and, true_iff]; omega
      · simp only [spanH, spanL, hlOk, m, if_false, true_and, false_iff]; omega
  | some hs =>
    by_cases mh : p ∈ hs
    · cases L with
      | none => simp only [spanH, spanL, hlOk, mh, if_true, true_iff, and_true]; omega
      | some ls =>
        by_cases m : p ∈ ls
        · simp only [spanH, spanL, hlOk, m, mh, if_true, true_iff]; omega
        · simp only [spanH, spanL, hlOk, m, mh, if_true, if_false, true_iff, false_iff]; omega
    · cases L with
      | none => simp only [spanH, spanL, hlOk, mh, if_false, false_iff, and_true]; omega
      | some ls =>
        by_cases m : p ∈ ls
        · simp only [spanH, spanL, hlOk, m, mh, if_true, if_false, true_iff, false_iff]; omega
        · simp only [spanH, spanL, hlOk, m, mh, if_false, false_iff]; omega
/-! ### rising lists that hold the same -/
theorem okW_rise {n : Int} {xs : List Int} (h : okW n (some xs) = true) : xs.Pairwise (· < ·) ∧ ∀ x ∈ xs, 0 ≤ x ∧ x < n := by
  unfold okW isPlaces at h
  rw [Bool.and_eq_true] at h
  obtain ⟨h1, h2⟩ := h
  refine ⟨?_, fun x hx => ?_⟩
  · clear h1
    induction xs with
    | nil => exact .nil
    | cons a l ih =>
      cases l with
      | nil => exact List.pairwise_singleton _ _
      | cons b l =>
        simp only [List.tail_cons, List.zip_cons_cons, List.all_cons, Bool.and_eq_true, decide_eq_true_eq] at h2 ih
        have ih := ih h2.2
        refine List.pairwise_cons.mpr ⟨fun c hc => ?_, ih⟩
        rcases List.mem_cons.mp hc with rfl | hc
        · exact h2.1
        · have := (List.pairwise_cons.mp ih).1 c hc
          omega
  · have := List.all_eq_true.mp h1 x hx
    simp only [Bool.and_eq_true, decide_eq_true_eq] at this
    omega
theorem places_rise {P : Int → Nat → Bool} (rs : List Int) : ((rs.zipIdx.filter fun p => P p.1 p.2).map fun p => ((p.2 : Nat) : Int)).Pairwise (· < ·) := by
  rw [filter_range]
  refine List.pairwise_map.mpr (List.Pairwise.imp ?_ (List.Pairwise.filter _ List.pairwise_lt_range))
  intro a b h
  omega
theorem places_mem {P : Int → Nat → Bool} (rs : List Int) (z : Int) : z ∈ ((rs.zipIdx.filter fun p => P p.1 p.2).map fun p => ((p.2 : Nat) : Int)) ↔ ∃ i : Nat, i < rs.length ∧ z = (i : Int) ∧ P (rs.getD i 0) i = true := by
  rw [filter_range]
  simp only [List.mem_map, List.mem_filter, List.mem_range]
  constructor
  · rintro ⟨i, ⟨h1, h2⟩, rfl⟩; exact ⟨i, h1, rfl, h2⟩
  · rintro ⟨i, h1, rfl, h2⟩; exact ⟨i, ⟨h1, h2⟩, rfl⟩
theorem same_rise {P : Int → Nat → Bool} {rs : List Int} {n : Nat} (hn : rs.length = n) {xs : List Int} (h : okW n (some xs) = true) : ((rs.zipIdx.filter fun p => P p.1 p.2).map fun p => ((p.2 : Nat) : Int)) = xs ↔ ∀ i : Nat, i < n → (((i : Int) ∈ xs) ↔ P (rs.getD i 0) i = true) := by
  obtain ⟨h1, h2⟩ := okW_rise h
  constructor
  · rintro rfl i hi
    rw [places_mem]
    constructor
    · rintro ⟨j, _, e, q⟩
      have : i = j := by omega
      subst this; exact q
    · intro q; exact ⟨i, by omega, rfl, q⟩
  · intro q
    refine lt_uniq (places_rise rs) h1 fun z => ?_
    rw [places_mem]
    constructor
    · rintro ⟨i, hi, rfl, p⟩; exact (q i (by omega)).mpr p
    · intro m
      have hz := h2 z m
      refine ⟨z.toNat, by omega, by omega, (q z.toNat (by omega)).mp ?_⟩
      rw [show ((z.toNat : Nat) : Int) = z by omega]; exact m
def wEq : Wl → List Int → Bool
  | none, _ => true
  | some xs, ys => decide (ys = xs)
theorem wEq_iff {W : Wl} {P : Int → Nat → Bool} {rs : List Int} {n : Nat} (hn : rs.length = n) (h : okW n W = true) : wEq W ((rs.zipIdx.filter fun p => P p.1 p.2).map fun p => ((p.2 : Nat) : Int)) = true ↔ ∀ i : Nat, i < n → hlOk W (i : Int) (P (rs.getD i 0) i = true) := by
  cases W with
  | none => simp [wEq, hlOk]
  | some xs => simp only [wEq, decide_eq_true_eq, hlOk]; exact same_rise hn h
theorem kept_hl {rs : List Int} {H L : Wl} {n : Nat} (v : Valid rs) (hn : rs.length = n) (h : (okW n H && okW n L) = true) : keptF rs H L = (wEq H (highsIn rs) && wEq L (lowsIn rs)) := by
  rw [Bool.and_eq_true] at h
  rw [Bool.eq_iff_iff, Bool.and_eq_true, kept_iff]
  unfold highsIn lowsIn
  rw [wEq_iff (P := fun a i => decide (a = ((i : Nat) : Int))) hn h.1, wEq_iff (P := fun a i => decide (a = 0)) hn h.2]
  have key : ∀ (i : Nat) (hi : i < n), rs[i]? = some (rs.getD i 0) := fun i hi => by rw [List.getD_eq_getElem?_getD, List.getElem?_eq_getElem (by omega)]; rfl
  constructor
  · intro q
    refine ⟨fun i hi => ?_, fun i hi => ?_⟩
    · have e := key i hi
      have b := v i _ e
      have := ((span_mem H L i _ b.1 b.2).mp (q i _ e)).1
      simpa only [decide_eq_true_eq] using this
    · have e := key i hi
      have b := v i _ e
      have := ((span_mem H L i _ b.1 b.2).mp (q i _ e)).2
      simpa only [decide_eq_true_eq] using this
  · rintro ⟨q1, q2⟩ i r e
    have hi : i < n := by rw [← hn]; exact (List.getElem?_eq_some_iff.mp e).1
    have b := v i _ e
    have g : rs.getD i 0 = r := by have := key i hi; rw [e] at this; exact (Option.some.inj this).symm
    refine (span_mem H L i _ b.1 b.2).mpr ⟨?_, ?_⟩
    · have := q1 i hi; rw [g] at this; simpa only [decide_eq_true_eq] using this
    · have := q2 i hi; rw [g] at this; simpa only [decide_eq_true_eq] using this
/-! ### the law's kept -/
theorem ix0 (a b : D) : oIx (.tup [a, b]) (.int 0) = .ok a := rfl
theorem ix1 (a b : D) : oIx (.tup [a, b]) (.int 1) = .ok b := rfl
theorem ev_lkept {xs : List Int} (H L : Wl) (h : xs.length ≤ 1000) : m__law_kept [Li xs, Wi H L] = .ok (.bl (wEq H (highsRow xs) && wEq L (lowsRow xs))) := by
  have e1 := ev_lhighs h
  have e2 := ev_llows h
  have tail : (T__law_kept_1 [.sh (Li xs), .sh (Wi H L)]).bind outX = .ok (.bl (wEq L (lowsRow xs))) := by
    cases L with
    | none => simp [T__law_kept_1, frE_cons, Wi, wD, ix1, wEq]
    | some ls => simp [T__law_kept_1, frE_cons, Wi, wD, ix1, wEq, e2, oEq_Li]
  cases H with
  | none =>
    rw [show wEq none (highsRow xs) = true from rfl, Bool.true_and, ← tail]
    simp [m__law_kept, S__law_kept, runX, initS, List.replicate, Wi, wD, ix0]
  | some hs =>
    by_cases q : highsRow xs = hs
    · rw [show wEq (some hs) (highsRow xs) = true by simp [wEq, q], Bool.true_and, ← tail]
      simp [m__law_kept, S__law_kept, runX, initS, List.replicate, Wi, wD, ix0, e1, oNe_Li, q]
    · rw [show wEq (some hs) (highsRow xs) = false by simp [wEq, q], Bool.false_and]
      simp [m__law_kept, S__law_kept, runX, initS, List.replicate, Wi, wD, ix0, e1, oNe_Li, q]
theorem ev_lkept_row {rs : List Int} {H L : Wl} {n : Nat} (v : Valid rs) (hn : rs.length = n) (h : (okW n H && okW n L) = true) (hl : n ≤ 1000) : m__law_kept [Li (rowBy rs), Wi H L] = .ok (.bl (keptF rs H L)) := by
  rw [ev_lkept H L (by rw [rowBy_len]; omega), ← highs_eq (rowBy_nodup v), ← lows_eq (rowBy_nodup v), ranks_rowBy rs v, kept_hl v hn h]
end DL
/-! all rows -/
namespace DL
open PySem L2
def nextR (k : Nat) (rows : List (List Int)) : List (List Int) := rows.flatMap fun row => (rgN 0 (k + 1)).map fun r => stepR row r
def allR : Nat → List (List Int)
  | 0 => [[]]
  | k + 1 => nextR k (allR k)
def nextK (k : Nat) (rows : List (List Int)) : List (List Int) := rows.flatMap fun rs => (rgN 0 (k + 1)).map fun r => rs ++ [r]
def allK : Nat → List (List Int)
  | 0 => [[]]
  | k + 1 => nextK k (allK k)
theorem allR_eq : ∀ n, allR n = (allK n).map rowBy
  | 0 => rfl
  | n + 1 => by
    unfold allR allK nextR nextK
    rw [allR_eq n, List.flatMap_map, List.map_flatMap]
    congr 1
    funext rs
    rw [List.map_map]
    congr 1
    funext r
    exact (rowBy_snoc rs r).symm
theorem allK_mem : ∀ (n : Nat) (rs : List Int), rs ∈ allK n ↔ (Valid rs ∧ rs.length = n)
  | 0, rs => by
    unfold allK
    rw [List.mem_singleton]
    constructor
    · rintro rfl; exact ⟨fun i r h => by simp at h, rfl⟩
    · rintro ⟨_, h⟩; exact List.length_eq_zero_iff.mp h
  | n + 1, rs => by
    unfold allK nextK
    rw [List.mem_flatMap]
    constructor
    · rintro ⟨qs, hq, hr⟩
      obtain ⟨r, hr2, rfl⟩ := List.mem_map.mp hr
      obtain ⟨v, l⟩ := (allK_mem n qs).mp hq
      have := mem_rgN.mp hr2
      refine ⟨fun i x h => ?_, by simp [l]⟩
      rcases Nat.lt_or_ge i qs.length with hi | hi
      · rw [List.getElem?_append_left hi] at h; exact v i x h
      · rw [List.getElem?_append_right hi] at h
        have : i - qs.length = 0 := by
          rcases Nat.eq_zero_or_pos (i - qs.length) with z | z
          · exact z
          · rw [List.getElem?_eq_none (by simp; omega)] at h; cases h
        rw [this] at h
        cases h
        omega
    · rintro ⟨v, l⟩
      have ne : rs ≠ [] := fun z => by rw [z] at l; simp at l
      have e := List.dropLast_concat_getLast ne
      refine ⟨rs.dropLast, (allK_mem n _).mpr ⟨fun i x h => ?_, by simp [l]⟩, ?_⟩
      · rw [List.getElem?_dropLast] at h
        split at h
        · exact v i x h
        · cases h
      · refine List.mem_map.mpr ⟨rs.getLast ne, mem_rgN.mpr ?_, e⟩
        have g : rs[n]? = some (rs.getLast ne) := by
          rw [List.getLast_eq_getElem, List.getElem?_eq_getElem (by omega)]
          congr 1
          congr 1
          omega
        have := v n _ g
        omega
theorem nextR_len (k : Nat) (rows : List (List Int)) : (nextR k rows).length = rows.length * (k + 1) := by
  unfold nextR
  induction rows with
  | nil => simp
  | cons r rows ih =>
    rw [List.flatMap_cons, List.length_append, ih, List.length_map, rgN_len, List.length_cons, Nat.add_mul]
    omega
def fac : Nat → Nat
  | 0 => 1
  | n + 1 => fac n * (n + 1)
theorem allR_len : ∀ n, (allR n).length = fac n
  | 0 => rfl
  | n + 1 => by unfold allR fac; rw [nextR_len, allR_len n]
theorem allR_mem {n : Nat} {row : List Int} (h : row ∈ allR n) : ∃ rs, Valid rs ∧ rs.length = n ∧ row = rowBy rs := by
  rw [allR_eq] at h
  obtain ⟨rs, h2, rfl⟩ := List.mem_map.mp h
  obtain ⟨v, l⟩ := (allK_mem n rs).mp h2
  exact ⟨rs, v, l, rfl⟩
/-! ### what the law makes -/
theorem rankLoop (e0 e1 e2 : VE) (row : List Int) (hr : row.length ≤ 1000) : ∀ (qs : List Int) (acc : List D) (d5 : VE), acc.length + qs.length ≤ 100000 → ∃ f5, forGo (.nm 5) B__law_all_rows_1 (qs.map D.int) [e0, e1, e2, .ow acc, .sh (Li row), d5, .un] = .ok (.nx [e0, e1, e2, .ow (acc ++ (qs.map fun r => stepR row r).map Li), .sh (Li row), f5, .un])
  | [], acc, d5, _ => ⟨d5, by simp [for_nil]⟩
  | q :: qs, acc, d5, h => by
    simp only [List.length_cons] at h
    obtain ⟨f5, e⟩ := rankLoop e0 e1 e2 row hr qs (acc ++ [Li (stepR row q)]) (.sh (.int q)) (by simp; omega)
    refine ⟨f5, ?_⟩
    have lc : ∀ a b c d : Option D, lcGo (.nm 6) bYes (eIf (bE (eOp oGe (eVar 6) (eVar 5))) (eOp oAdd (eVar 6) (eC (.int 1))) (eVar 6)) [a, b, c, d, some (Li row), some (.int q), none] (row.map D.int) = .ok ((row.map (bump q)).map D.int) := fun a b c d => stepR_comp hr 6 5 (fun _ => rfl) (fun _ => rfl)
    have hl : row.length ≤ 100000 := by omega
    have cc : oCat (.lst ((row.map (bump q)).map D.int)) (.lst [.int q]) = .ok ((stepR row q).map D.int) := by
      rw [cat_ok (by simp; omega)]
      simp [stepR]
    have ha : acc.length < 100000 := by omega
    have step : B__law_all_rows_1 [e0, e1, e2, .ow acc, .sh (Li row), .sh (.int q), .un] = .ok (.nx [e0, e1, e2, .ow (acc ++ [Li (stepR row q)]), .sh (Li row), .sh (.int q), .un]) := by
      simp only [B__law_all_rows_1, ap_sAppH, List.getElem?_cons_succ, List.getElem?_cons_zero, ap_New, ap_OpN, ap_Lc, ap_iOf, hdE_cons, hd_sh, hdE_nil, var_s, var_0, R.bind_ok, it_lst, List.length_map, hl, if_true, wipeD_cons, wipeD_nil, List.set_cons_succ, List.set_cons_zero, lc, R.map_ok, ap_Lst, ap_aCons, ap_aNil, cc, ha]
      simp [-List.map_map, hdE_cons, lc, cc]
    rw [List.map_cons, for_step (as := [(5, .int q)]) (by simp) step, e]
    simp
theorem rowsLoop (e0 e1 : VE) (k : Nat) (hk : k ≤ 100) : ∀ (rows : List (List Int)) (acc : List D) (d4 d5 : VE), (∀ r ∈ rows, r.length ≤ 1000) → acc.length + rows.length * (k + 1) ≤ 100000 → ∃ f4 f5, forGo (.nm 4) B__law_all_rows_2 (rows.map Li) [e0, e1, .sh (.int k), .ow acc, d4, d5, .un] = .ok (.nx [e0, e1, .sh (.int k), .ow (acc ++ (nextR k rows).map Li), f4, f5, .un])
  | [], acc, d4, d5, _, _ => ⟨d4, d5, by simp [for_nil, nextR]⟩
  | r :: rows, acc, d4, d5, hr, h => by
    simp only [List.length_cons, Nat.add_mul] at h
    obtain ⟨g5, e1'⟩ := rankLoop e0 e1 (.sh (.int k)) r (hr r List.mem_cons_self) (rgN 0 (k + 1)) acc d5 (by rw [rgN_len]; omega)
    obtain ⟨f4, f5, e⟩ := rowsLoop e0 e1 k hk rows (acc ++ ((rgN 0 (k + 1)).map fun q => stepR r q).map Li) (.sh (Li r)) g5 (fun x hx => hr x (List.mem_cons_of_mem _ hx)) (by simp [rgN_len]; omega)
    refine ⟨f4, f5, ?_⟩
    have rr : rg1 [.int ((k : Int) + 1)] = .ok ((rgN 0 (k + 1)).map D.int) := by
      have := rg1_ok (n := (k : Int) + 1) (by omega)
      rw [show ((k : Int) + 1).toNat = k + 1 by omega] at this
      exact this
    have step : B__law_all_rows_2 [e0, e1, .sh (.int k), .ow acc, .sh (Li r), d5, .un] = .ok (.nx [e0, e1, .sh (.int k), .ow (acc ++ ((rgN 0 (k + 1)).map fun q => stepR r q).map Li), .sh (Li r), g5, .un]) := by
      simp only [B__law_all_rows_2]
      simp [-List.map_map, hdE_cons, rr, e1']
    rw [List.map_cons, for_step (σ := [e0, e1, .sh (.int k), .ow acc, d4, d5, .un]) (as := [(4, Li r)]) (by simp) step, e]
    simp only [nextR, List.flatMap_cons, List.map_append, List.append_assoc]
theorem sizeLoop (e0 : VE) (hb : ∀ k : Nat, k ≤ 6 → fac k ≤ 720) : ∀ (m p : Nat) (d2 d3 d4 d5 : VE), p + m ≤ 6 → ∃ f2 f3 f4 f5, forGo (.nm 2) (sSeq (sAsgNH 3 (eLst aNil)) T__law_all_rows_1) ((rgN p m).map D.int) [e0, .sh (.lst ((allR p).map Li)), d2, d3, d4, d5, .un] = .ok (.nx [e0, .sh (.lst ((allR (p + m)).map Li)), f2, f3, f4, f5, .un])
  | 0, p, d2, d3, d4, d5, _ => ⟨d2, d3, d4, d5, rfl⟩
  | m + 1, p, d2, d3, d4, d5, h => by
    obtain ⟨g4, g5, e1⟩ := rowsLoop e0 (.sh (.lst ((allR p).map Li))) p (by omega) (allR p) [] d4 d5 (fun r hr => by
      obtain ⟨rs, _, l, rfl⟩ := allR_mem hr
      rw [rowBy_len]; omega) (by
      rw [allR_len]
      have := hb p (by omega)
      simp
      have : fac p * (p + 1) ≤ 720 * 7 := Nat.mul_le_mul this (by omega)
      omega)
    obtain ⟨f2, f3, f4, f5, e⟩ := sizeLoop e0 hb m (p + 1) (.sh (.int p)) (.sh (.lst ((allR (p + 1)).map Li))) g4 g5 (by omega)
    refine ⟨f2, f3, f4, f5, ?_⟩
    simp only [List.nil_append] at e1
    have step : (sSeq (sAsgNH 3 (eLst aNil)) T__law_all_rows_1) [e0, .sh (.lst ((allR p).map Li)), .sh (.int p), d3, d4, d5, .un] = .ok (.nx [e0, .sh (.lst ((allR (p + 1)).map Li)), .sh (.int p), .sh (.lst ((allR (p + 1)).map Li)), g4, g5, .un]) := by
      simp only [T__law_all_rows_1, ap_Seq, ap_sAsgNH, ap_Lst, ap_aNil, R.bind_ok, ap_thenNx, List.set_cons_succ, List.set_cons_zero, ap_sFor, ap_iOf, hdE_cons, hd_sh, var_s, var_0, it_lst, e1, List.length_nil, Nat.zero_le, if_true]
      simp [hdE_cons, allR]
    rw [rgN_succ, List.map_cons, for_step (as := [(2, .int p)]) (by simp) step]
    have c : ((p : Int) + 1) = ((p + 1 : Nat) : Int) := by omega
    rw [c, e, show p + 1 + m = p + (m + 1) by omega]
theorem ev_all_rows (n : Nat) (h : n ≤ 6) : m__law_all_rows [.int n] = .ok ((sortRows (allR n)).map Li) := by
  obtain ⟨f2, f3, f4, f5, e⟩ := sizeLoop (.sh (.int n)) (by decide) n 0 .un .un .un .un (by omega)
  rw [Nat.zero_add] at e
  have e : forGo (.nm 2) (sSeq (sAsgNH 3 (eLst aNil)) T__law_all_rows_1) ((rgN 0 n).map D.int) [.sh (.int n), .sh (.lst [.lst []]), .un, .un, .un, .un, .un] = _ := e
  have rr : rg1 [.int (n : Int)] = .ok ((rgN 0 n).map D.int) := by
    have := rg1_ok (n := (n : Int)) (by omega)
    rw [show ((n : Int)).toNat = n by omega] at this
    exact this
  have so : oSortedL [.lst ((allR n).map Li)] = .ok ((sortRows (allR n)).map Li) := by
    have : rowsOf ((allR n).map Li) = some (allR n) := rowsOf_map (allR n)
    simp only [oSortedL, this]
  unfold m__law_all_rows runN S__law_all_rows
  simp [-List.map_map, initS, List.replicate, T__law_all_rows_2, rr, e, frE_cons, so]
end DL
/-! counting rows -/
namespace DL
open PySem L2
theorem spansF_snoc (k : Nat) (H L : Wl) : spansF (k + 1) H L = spansF k H L ++ [spanF H L k] := by
  unfold spansF
  rw [rgN_snoc, List.map_append]
  simp
def inSp (ab : Int × Int) (r : Int) : Bool := decide (ab.1 ≤ r) && decide (r ≤ ab.2)
theorem keptF_snoc {rs : List Int} {k : Nat} (h : rs.length = k) (r : Int) (H L : Wl) : keptF (rs ++ [r]) H L = (keptF rs H L && inSp (spanF H L k) r) := by
  unfold keptF
  rw [List.length_append, List.length_singleton, h, spansF_snoc, List.zip_append (by rw [spansF_len]; exact h), List.all_append]
  simp [inSp]
theorem inSp_count (ab : Int × Int) : ∀ (m : Nat) (lo : Int), (((rgN lo m).filter (inSp ab)).length : Int) = max 0 (min ab.2 (lo + m - 1) - max ab.1 lo + 1)
  | 0, lo => by
    have : rgN lo 0 = [] := rfl
    rw [this]
    simp only [List.filter_nil, List.length_nil]
    omega
  | m + 1, lo => by
    rw [rgN_succ, List.filter_cons]
    have ih := inSp_count ab m (lo + 1)
    by_cases q : inSp ab lo = true
    · rw [if_pos q, List.length_cons]
      simp only [inSp, Bool.and_eq_true, decide_eq_true_eq] at q
      omega
    · rw [if_neg q]
      simp only [inSp, Bool.and_eq_true, decide_eq_true_eq] at q
      omega
theorem span_count (H L : Wl) (k : Nat) : (((rgN 0 (k + 1)).filter (inSp (spanF H L k))).length : Int) = max 0 ((spanF H L k).2 - (spanF H L k).1 + 1) := by
  have := span_low H L k (by omega)
  rw [inSp_count]
  omega
theorem flat_count (P : List Int → Bool) (q : Int → Bool) (m : Nat) : ∀ (xs : List (List Int)), (∀ rs ∈ xs, ∀ r, P (rs ++ [r]) = (P rs && q r)) → ((xs.flatMap fun rs => (rgN 0 m).map fun r => rs ++ [r]).filter P).length = (xs.filter P).length * ((rgN 0 m).filter q).length
  | [], _ => by simp
  | rs :: xs, h => by
    have ih := flat_count P q m xs fun s hs => h s (List.mem_cons_of_mem _ hs)
    rw [List.flatMap_cons, List.filter_append, List.length_append, ih, List.filter_cons, List.filter_map, List.length_map]
    have e : (P ∘ fun r => rs ++ [r]) = fun r => P rs && q r := by
      funext r
      exact h rs List.mem_cons_self r
    rw [e]
    cases hp : P rs with
    | true =>
      simp only [Bool.true_and, if_true, List.length_cons, Nat.add_mul]
      have : (List.filter (fun r => q r) (rgN 0 m)).length = (List.filter q (rgN 0 m)).length := rfl
      omega
    | false =>
      simp
theorem count_rows (H L : Wl) : ∀ n : Nat, ((((allK n).filter fun rs => keptF rs H L).length : Nat) : Int) = prodF (spansF n H L)
  | 0 => by
    have : keptF [] H L = true := rfl
    simp [allK, this, spansF, rgN, prodF]
  | n + 1 => by
    unfold allK nextK
    rw [flat_count (fun rs => keptF rs H L) (inSp (spanF H L n)) (n + 1) (allK n) (fun rs hrs r => keptF_snoc ((allK_mem n rs).mp hrs).2 r H L), Int.natCast_mul, count_rows H L n, span_count, spansF_snoc]
    unfold prodF
    rw [List.foldl_append]
    rfl
/-! rows of the sorted list -/
theorem sortRows_perm (rs : List (List Int)) : (sortRows rs).Perm rs := List.mergeSort_perm _ _
theorem sorted_mem {n : Nat} {row : List Int} (h : row ∈ sortRows (allR n)) : ∃ rs, Valid rs ∧ rs.length = n ∧ row = rowBy rs := allR_mem ((sortRows_perm _).mem_iff.mp h)
theorem count_sorted (H L : Wl) (n : Nat) : ((((sortRows (allR n)).filter fun row => keptF (ranksIn row) H L).length : Nat) : Int) = prodF (spansF n H L) := by
  rw [((sortRows_perm (allR n)).filter _).length_eq, allR_eq, List.filter_map, List.length_map, ← count_rows H L n]
  congr 2
  refine List.filter_congr fun rs hrs => ?_
  show keptF (ranksIn (rowBy rs)) H L = _
  rw [ranks_rowBy rs ((allK_mem n rs).mp hrs).1]
end DL
/-! a wish, place by place, as the laws ask it -/
namespace DL
open PySem L2
def hlB (W : Wl) (p : Int) (c : Bool) : Bool := match W with
  | none => true
  | some xs => decide (p ∈ xs) == c
theorem hlB_iff (W : Wl) (p : Int) (q : Prop) [Decidable q] : hlB W p (decide q) = true ↔ hlOk W p q := by
  cases W with
  | none => simp [hlB, hlOk]
  | some xs => by_cases a : p ∈ xs <;> by_cases b : q <;> simp [hlB, hlOk, a, b]
theorem inSp_hl (H L : Wl) (p r : Int) (h0 : 0 ≤ r) (h1 : r ≤ p) : inSp (spanF H L p) r = (hlB H p (decide (r = p)) && hlB L p (decide (r = 0))) := by
  rw [Bool.eq_iff_iff, Bool.and_eq_true, hlB_iff, hlB_iff, ← span_mem H L p r h0 h1]
  simp [inSp]
/-- (wish[i] is None or (place in wish[i]) == told) -/
theorem told_ok {ρ : DL.Env} {W : Wl} {i : Int} {iw ip it : Nat} {wish : D} {p : Int} {c : Bool} (hw : eVar iw ρ = .ok wish) (hi : oIx wish (.int i) = .ok (wD W)) (hp : eVar ip ρ = .ok (.int p)) (ht : eVar it ρ = .ok (.bl c)) :
    bOr (bE (eOp oIs (eOp oIx (eVar iw) (eC (.int i))) (eC .non))) (bE (eOp oEq (eOp oInX (eVar ip) (eOp oIx (eVar iw) (eC (.int i)))) (eVar it))) ρ = .ok (hlB W p c) := by
  cases W with
  | none => simp [hw, hi, wD, hlB]
  | some xs =>
    simp only [wD] at hi
    simp [hw, hi, wD, hlB, hp, ht, inX_ints]
    cases decide (p ∈ xs) <;> cases c <;> rfl
theorem filter_span (a b : Int) : ∀ (m : Nat) (lo : Int), lo ≤ a → b < lo + m → ((rgN lo m).filter (inSp (a, b))) = rgN a (b - a + 1).toNat
  | 0, lo, h1, h2 => by
    have : (b - a + 1).toNat = 0 := by omega
    rw [this]; rfl
  | m + 1, lo, h1, h2 => by
    rw [rgN_succ, List.filter_cons]
    by_cases e : lo = a
    · subst e
      by_cases q : lo ≤ b
      · have : inSp (lo, b) lo = true := by simp [inSp, q]
        rw [if_pos this]
        obtain ⟨k, hk⟩ : ∃ k, (b - lo + 1).toNat = k + 1 := ⟨(b - lo).toNat, by omega⟩
        rw [hk, rgN_succ]
        congr 1
        have f2 : (rgN (lo + 1) m).filter (inSp (lo, b)) = (rgN (lo + 1) m).filter (inSp (lo + 1, b)) := List.filter_congr fun x hx => by
          have := mem_rgN.mp hx
          rw [Bool.eq_iff_iff]
          simp only [inSp, Bool.and_eq_true, decide_eq_true_eq]
          omega
        rw [f2, filter_span (lo + 1) b m (lo + 1) (by omega) (by omega)]
        congr 1
        omega
      · have h3 : (b - lo + 1).toNat = 0 := by omega
        rw [h3]
        have : ¬ inSp (lo, b) lo = true := by simp [inSp, q]
        rw [if_neg this]
        have : (rgN (lo + 1) m).filter (inSp (lo, b)) = [] := List.filter_eq_nil_iff.mpr fun x hx => by
          have := mem_rgN.mp hx
          simp only [inSp, Bool.and_eq_true, decide_eq_true_eq]
          omega
        rw [this]; rfl
    · have : ¬ inSp (a, b) lo = true := by simp only [inSp, Bool.and_eq_true, decide_eq_true_eq]; omega
      rw [if_neg this]
      exact filter_span a b m (lo + 1) (by omega) (by omega)
theorem ranks_span (H L : Wl) (p : Nat) : (rgN 0 (p + 1)).filter (inSp (spanF H L p)) = rgN (spanF H L p).1 ((spanF H L p).2 - (spanF H L p).1 + 1).toNat := by
  have := span_low H L p (by omega)
  exact filter_span (spanF H L p).1 (spanF H L p).2 (p + 1) 0 (by omega) (by omega)
end DL
/-! rows by their inversions -/
namespace DL
open PySem L2
theorem sum_addI {α : Type} (f g : α → Int) : ∀ xs : List α, (xs.map fun x => f x + g x).sum = (xs.map f).sum + (xs.map g).sum
  | [] => by simp
  | x :: xs => by
    simp only [List.map_cons, List.sum_cons, sum_addI f g xs]
    omega
theorem flat_sum (Q : List Int → Bool) (ys : List Int) : ∀ (xs : List (List Int)), ((((xs.flatMap fun rs => ys.map fun r => rs ++ [r]).filter Q).length : Nat) : Int) = (ys.map fun r => (((xs.filter fun rs => Q (rs ++ [r])).length : Nat) : Int)).sum
  | [] => by
    simp only [List.flatMap_nil, List.filter_nil, List.length_nil]
    induction ys with
    | nil => rfl
    | cons y ys ih => rw [List.map_cons, List.sum_cons, ← ih]; rfl
  | rs :: xs => by
    rw [List.flatMap_cons, List.filter_append, List.length_append, Int.natCast_add, flat_sum Q ys xs]
    have e : (((ys.map fun r => rs ++ [r]).filter Q).length : Int) = (ys.map fun r => (if Q (rs ++ [r]) then (1 : Int) else 0)).sum := by
      induction ys with
      | nil => rfl
      | cons y ys ih =>
        rw [List.map_cons, List.filter_cons, List.map_cons, List.sum_cons, ← ih]
        cases Q (rs ++ [y]) <;> simp
        omega
    rw [e, ← sum_addI]
    congr 1
    refine List.map_congr_left fun r _ => ?_
    rw [List.filter_cons]
    cases Q (rs ++ [r]) <;> simp
    omega
theorem sum_if (p : Int → Bool) (f : Int → Int) : ∀ ys : List Int, (ys.map fun r => if p r then f r else 0).sum = ((ys.filter p).map f).sum
  | [] => rfl
  | y :: ys => by
    rw [List.map_cons, List.sum_cons, sum_if p f ys, List.filter_cons]
    cases p y <;> simp
theorem sum_rev : ∀ (m : Nat) (a n : Int) (g : Int → Int), ((rgN a m).map fun r => g (n - r)).sum = ((rgN (n - (a + (m : Int) - 1)) m).map g).sum
  | 0, a, n, g => rfl
  | m + 1, a, n, g => by
    rw [rgN_snoc, List.map_append, List.sum_append, sum_rev m a n g, rgN_succ, List.map_cons, List.sum_cons]
    have e1 : n - (a + ((m + 1 : Nat) : Int) - 1) + 1 = n - (a + (m : Int) - 1) := by omega
    have e2 : n - (a + ((m + 1 : Nat) : Int) - 1) = n - (a + (m : Int)) := by omega
    rw [e1, e2]
    simp only [List.map_cons, List.map_nil, List.sum_cons, List.sum_nil]
    omega
theorem invIn_snoc {rs : List Int} {n : Nat} (h : rs.length = n) (r : Int) : invIn (rs ++ [r]) = invIn rs + ((n : Int) - r) := by
  unfold invIn
  rw [List.zipIdx_append, List.map_append, List.sum_append]
  simp [h]
theorem count_inv (H L : Wl) : ∀ (n : Nat) (k : Int), ((((allK n).filter fun rs => keptF rs H L && decide (invIn rs = k)).length : Nat) : Int) = cntF H L n k
  | 0, k => by
    have h1 : keptF [] H L = true := rfl
    have h2 : invIn [] = 0 := rfl
    by_cases hk : k = 0
    · subst hk; simp [allK, h1, h2, cntF]
    · have : ¬ (0 : Int) = k := fun z => hk z.symm
      simp [allK, h1, h2, cntF, hk, this]
  | n + 1, k => by
    unfold allK nextK
    rw [flat_sum]
    have e : ∀ r ∈ rgN 0 (n + 1), ((((allK n).filter fun rs => keptF (rs ++ [r]) H L && decide (invIn (rs ++ [r]) = k)).length : Nat) : Int) = if inSp (spanF H L n) r then cntF H L n (k - ((n : Int) - r)) else 0 := by
      intro r hr
      have g : ((allK n).filter fun rs => keptF (rs ++ [r]) H L && decide (invIn (rs ++ [r]) = k)) = (allK n).filter fun rs => (keptF rs H L && decide (invIn rs = k - ((n : Int) - r))) && inSp (spanF H L n) r := by
        refine List.filter_congr fun rs hrs => ?_
        have hl := ((allK_mem n rs).mp hrs).2
        rw [keptF_snoc hl, invIn_snoc hl]
        have : decide (invIn rs + ((n : Int) - r) = k) = decide (invIn rs = k - ((n : Int) - r)) := by
          rw [Bool.eq_iff_iff, decide_eq_true_eq, decide_eq_true_eq]
          omega
        rw [this]
        cases keptF rs H L <;> cases inSp (spanF H L n) r <;> simp
      rw [g]
      cases hs : inSp (spanF H L n) r with
      | true => simp only [Bool.and_true, if_true]; exact count_inv H L n _
      | false => simp
    rw [List.map_congr_left e, sum_if, ranks_span]
    rw [cntF]
    unfold nextC
    by_cases hab : (spanF H L n).1 ≤ (spanF H L n).2
    · rw [if_pos hab, sum_rev _ _ (n : Int) fun j => cntF H L n (k - j)]
      congr 3
      omega
    · rw [if_neg hab, show ((spanF H L n).2 - (spanF H L n).1 + 1).toNat = 0 by omega]
      rfl
end DL
/-! the fewest and the most inversions -/
namespace DL
open PySem L2
theorem fewF_snoc (n : Nat) (H L : Wl) : fewF (n + 1) H L = fewF n H L + ((n : Int) - (spanF H L n).2) := by
  unfold fewF
  rw [rgN_snoc, List.map_append, List.sum_append]
  simp
theorem mostF_snoc (n : Nat) (H L : Wl) : mostF (n + 1) H L = mostF n H L + ((n : Int) - (spanF H L n).1) := by
  unfold mostF
  rw [rgN_snoc, List.map_append, List.sum_append]
  simp
theorem inv_between (H L : Wl) : ∀ (n : Nat) (rs : List Int), rs.length = n → keptF rs H L = true → fewF n H L ≤ invIn rs ∧ invIn rs ≤ mostF n H L
  | 0, rs, hl, _ => by
    have : rs = [] := List.length_eq_zero_iff.mp hl
    subst this
    exact ⟨Int.le_refl 0, Int.le_refl 0⟩
  | n + 1, rs, hl, hk => by
    have ne : rs ≠ [] := fun z => by rw [z] at hl; simp at hl
    have e := List.dropLast_concat_getLast ne
    have hl' : rs.dropLast.length = n := by simp [hl]
    rw [← e] at hk ⊢
    rw [keptF_snoc hl', Bool.and_eq_true] at hk
    have ih := inv_between H L n rs.dropLast hl' hk.1
    have sp := hk.2
    simp only [inSp, Bool.and_eq_true, decide_eq_true_eq] at sp
    rw [invIn_snoc hl', fewF_snoc, mostF_snoc]
    omega
theorem nobar_pre {n : Nat} {H L : Wl} (h : barF (n + 1) H L = none) : barF n H L = none := by
  unfold barF at h ⊢
  rw [rgN_snoc, List.find?_append] at h
  exact (Option.or_eq_none_iff.mp h).1
def leasts (n : Nat) (H L : Wl) : List Int := (spansF n H L).map (·.1)
theorem ends_ok (H L : Wl) : ∀ n : Nat, barF n H L = none → (leasts n H L ∈ allK n ∧ keptF (leasts n H L) H L = true ∧ invIn (leasts n H L) = mostF n H L) ∧ (mosts n H L ∈ allK n ∧ keptF (mosts n H L) H L = true ∧ invIn (mosts n H L) = fewF n H L)
  | 0, _ => by
    refine ⟨⟨?_, rfl, rfl⟩, ?_, rfl, rfl⟩ <;> exact List.mem_singleton.mpr rfl
  | n + 1, h => by
    obtain ⟨⟨a1, a2, a3⟩, b1, b2, b3⟩ := ends_ok H L n (nobar_pre h)
    have hn := nobar_at h n (by omega)
    have lo := span_low H L n (by omega)
    have e1 : leasts (n + 1) H L = leasts n H L ++ [(spanF H L n).1] := by unfold leasts; rw [spansF_snoc, List.map_append]; rfl
    have e2 : mosts (n + 1) H L = mosts n H L ++ [(spanF H L n).2] := by unfold mosts; rw [spansF_snoc, List.map_append]; rfl
    have l1 := ((allK_mem n _).mp a1).2
    have l2 := ((allK_mem n _).mp b1).2
    rw [e1, e2]
    refine ⟨⟨?_, ?_, ?_⟩, ?_, ?_, ?_⟩
    · unfold allK nextK
      exact List.mem_flatMap.mpr ⟨_, a1, List.mem_map.mpr ⟨_, mem_rgN.mpr (by omega), rfl⟩⟩
    · rw [keptF_snoc l1, a2]
      simp [inSp, hn]
    · rw [invIn_snoc l1, mostF_snoc, a3]
    · unfold allK nextK
      exact List.mem_flatMap.mpr ⟨_, b1, List.mem_map.mpr ⟨_, mem_rgN.mpr (by omega), rfl⟩⟩
    · rw [keptF_snoc l2, b2]
      simp [inSp, hn]
    · rw [invIn_snoc l2, fewF_snoc, b3]
/-- the inversions of the rows that keep a wish -/
def invs (n : Nat) (H L : Wl) : List Int := ((sortRows (allR n)).filter fun row => keptF (ranksIn row) H L).map fun row => invIn (ranksIn row)
theorem invs_perm (n : Nat) (H L : Wl) : (invs n H L).Perm (((allK n).filter fun rs => keptF rs H L).map invIn) := by
  unfold invs
  refine (((sortRows_perm (allR n)).filter _).map _).trans (List.Perm.of_eq ?_)
  rw [allR_eq, List.filter_map, List.map_map]
  have e : ((allK n).filter ((fun row => keptF (ranksIn row) H L) ∘ rowBy)) = (allK n).filter fun rs => keptF rs H L := List.filter_congr fun rs hrs => by
    show keptF (ranksIn (rowBy rs)) H L = _
    rw [ranks_rowBy rs ((allK_mem n rs).mp hrs).1]
  rw [e]
  refine List.map_congr_left fun rs hrs => ?_
  show invIn (ranksIn (rowBy rs)) = _
  rw [ranks_rowBy rs ((allK_mem n rs).mp (List.mem_filter.mp hrs).1).1]
theorem invs_mem {n : Nat} {H L : Wl} {x : Int} (h : x ∈ invs n H L) : fewF n H L ≤ x ∧ x ≤ mostF n H L := by
  obtain ⟨rs, hrs, rfl⟩ := List.mem_map.mp ((invs_perm n H L).mem_iff.mp h)
  obtain ⟨m, k⟩ := List.mem_filter.mp hrs
  exact inv_between H L n rs ((allK_mem n rs).mp m).2 k
theorem invs_ends {n : Nat} {H L : Wl} (h : barF n H L = none) : fewF n H L ∈ invs n H L ∧ mostF n H L ∈ invs n H L := by
  obtain ⟨⟨a1, a2, a3⟩, b1, b2, b3⟩ := ends_ok H L n h
  exact ⟨(invs_perm n H L).mem_iff.mpr (List.mem_map.mpr ⟨_, List.mem_filter.mpr ⟨b1, b2⟩, b3⟩), (invs_perm n H L).mem_iff.mpr (List.mem_map.mpr ⟨_, List.mem_filter.mpr ⟨a1, a2⟩, a3⟩)⟩
theorem invs_none {n : Nat} {H L : Wl} {p : Int} (h : barF n H L = some p) : invs n H L = [] := by
  have : ((allK n).filter fun rs => keptF rs H L) = [] := List.filter_eq_nil_iff.mpr fun rs hrs => by
    rw [bar_kept h ((allK_mem n rs).mp hrs).2]
    simp
  have q := invs_perm n H L
  rw [this] at q
  exact q.eq_nil
theorem invs_count (n : Nat) (H L : Wl) (k : Int) : ((((invs n H L).filter fun x => decide (x = k)).length : Nat) : Int) = cntF H L n k := by
  rw [((invs_perm n H L).filter _).length_eq, List.filter_map, List.length_map, List.filter_filter, ← count_inv H L n k]
  congr 2
  refine List.filter_congr fun rs _ => ?_
  show (decide (invIn rs = k) && keptF rs H L) = _
  exact Bool.and_comm _ _
end DL
/-! neighbours exchanged one behind the other; led as seldom as can be -/
namespace DL
open PySem L2
def goF (xs : List Int) : List Int → Option (List Int)
  | [] => some xs
  | p :: ps => if 0 ≤ p ∧ p < (xs.length : Int) - 1 then goF (exchF xs p.toNat) ps else none
def apartF (row other : List Int) : Int := invRow (row.map fun x => ((idxI other x : Nat) : Int))
def dueF (row other ps : List Int) : Bool := match goF row ps with
  | some h => decide (h = other) && decide ((ps.length : Int) = apartF row other)
  | none => false
theorem goF_append : ∀ (ps qs xs : List Int), goF xs (ps ++ qs) = (goF xs ps).bind fun h => goF h qs
  | [], qs, xs => rfl
  | p :: ps, qs, xs => by
    rw [List.cons_append, goF, goF]
    split
    · exact goF_append ps qs _
    · rfl
theorem exch_get {xs : List Int} {p i : Nat} (h : p + 1 < xs.length) : (exchF xs p)[i]? = if i = p then xs[p + 1]? else if i = p + 1 then xs[p]? else xs[i]? := by
  have e0 : xs[p]? = some (xs.getD p 0) := by simp [List.getD, show p < xs.length by omega]
  have e1 : xs[p + 1]? = some (xs.getD (p + 1) 0) := by simp [List.getD, h]
  have hl : (xs.take p).length = p := by rw [List.length_take]; omega
  unfold exchF
  by_cases h1 : i < p
  · rw [List.getElem?_append_left (by omega), if_neg (by omega), if_neg (by omega), List.getElem?_take_of_lt h1]
  · rw [List.getElem?_append_right (by omega), hl]
    by_cases h2 : i = p
    · subst h2
      rw [Nat.sub_self, if_pos rfl, e1]; rfl
    · by_cases h3 : i = p + 1
      · subst h3
        rw [if_neg h2, if_pos rfl, show p + 1 - p = 1 by omega, e0]; rfl
      · rw [if_neg h2, if_neg h3]
        obtain ⟨k, hk⟩ : ∃ k, i - p = k + 2 := ⟨i - p - 2, by omega⟩
        rw [hk, List.getElem?_cons_succ, List.getElem?_cons_succ, List.getElem?_drop]
        congr 1
        omega
theorem exch_map (f : Int → Int) (xs : List Int) {p : Nat} (h : p + 1 < xs.length) : (exchF xs p).map f = exchF (xs.map f) p := by
  apply List.ext_getElem?
  intro i
  rw [List.getElem?_map, exch_get h, exch_get (by rw [List.length_map]; exact h)]
  simp only [List.getElem?_map]
  split
  · rfl
  · split <;> rfl
/-! led -/
section
variable {other : List Int} {n : Nat}
def fO (other : List Int) (x : Int) : Int := ((idxI other x : Nat) : Int)
def invO (other here : List Int) : Nat := invL (here.map (fO other))
structure Good (other : List Int) (g : Nat) (here : List Int) : Prop where
  pm : here.Perm other
  pre : ∀ i, i < g → here[i]? = other[i]?
theorem idx_lt {xs : List Int} {k : Int} (h : k ∈ xs) : ∃ hi : idxI xs k < xs.length, xs[idxI xs k] = k := by
  induction xs with
  | nil => cases h
  | cons x xs ih =>
    unfold idxI
    by_cases e : x = k
    · simp [e]
    · have hk : k ∈ xs := by
        rcases List.mem_cons.mp h with q | q
        · exact absurd q.symm e
        · exact q
      obtain ⟨h1, h2⟩ := ih hk
      simp only [e, if_false]
      exact ⟨by simpa using h1, by simpa using h2⟩
theorem dn_eq (g d : Nat) : (rgN g (d + 1)).reverse = ((g + d : Nat) : Int) :: (rgN g d).reverse := by
  rw [rgN_snoc, List.reverse_append]
  simp
theorem get_inj {xs : List Int} (hn : xs.Nodup) {i j : Nat} {x : Int} (h1 : xs[i]? = some x) (h2 : xs[j]? = some x) : i = j := by
  obtain ⟨a, b⟩ := List.getElem?_eq_some_iff.mp h1
  obtain ⟨c, d⟩ := List.getElem?_eq_some_iff.mp h2
  have := idx_get a hn
  have := idx_get c hn
  rw [b] at *
  rw [d] at *
  omega
theorem inner (hr : isRow other = true) (g : Nat) (thing : Int) (ht : other[g]? = some thing) : ∀ (d : Nat) (here : List Int), Good other g here → here[g + d]? = some thing → ∃ here', goF here (rgN g d).reverse = some here' ∧ Good other g here' ∧ here'[g]? = some thing ∧ invO other here = invO other here' + d
  | 0, here, G, h => ⟨here, rfl, G, h, rfl⟩
  | d + 1, here, G, h => by
    have hno := isRow_nodup hr
    have hnh : here.Nodup := G.pm.nodup_iff.mpr hno
    have hlen : here.length = other.length := G.pm.length_eq
    have hlt : g + (d + 1) < here.length := (List.getElem?_eq_some_iff.mp h).1
    have hq : g + d + 1 < here.length := by omega
    -- the neighbour
    obtain ⟨y, hy⟩ : ∃ y, here[g + d]? = some y := ⟨here[g + d], List.getElem?_eq_getElem (by omega)⟩
    have hy' : here[g + d]'(by omega) = y := Option.some.inj ((List.getElem?_eq_getElem (by omega)).symm.trans hy)
    have ht' : here[g + d + 1]'hq = thing := Option.some.inj ((List.getElem?_eq_getElem hq).symm.trans h)
    have ymem : y ∈ other := G.pm.mem_iff.mp (List.mem_of_getElem? hy)
    obtain ⟨yl, yv⟩ := idx_lt ymem
    have gl : g < other.length := (List.getElem?_eq_some_iff.mp ht).1
    have tv : idxI other thing = g := by
      have := idx_get gl hno
      rw [(List.getElem?_eq_some_iff.mp ht).2] at this
      exact this
    have yg : g < idxI other y := by
      rcases Nat.lt_or_ge g (idxI other y) with z | z
      · exact z
      · exfalso
        have oy : other[idxI other y]? = some y := by rw [List.getElem?_eq_getElem yl, yv]
        rcases Nat.lt_or_ge (idxI other y) g with z2 | z2
        · have := G.pre _ z2
          rw [oy] at this
          have := get_inj hnh this hy
          omega
        · have e : idxI other y = g := by omega
          rw [e, ht] at oy
          cases oy
          have := get_inj hnh hy h
          omega
    have G1 : Good other g (exchF here (g + d)) := ⟨(exch_perm hq).trans G.pm, fun i hi => by
      rw [exch_get hq, if_neg (by omega), if_neg (by omega)]
      exact G.pre i hi⟩
    have h1 : (exchF here (g + d))[g + d]? = some thing := by
      rw [exch_get hq, if_pos rfl]
      exact h
    obtain ⟨here', e1, G2, e2, e3⟩ := inner hr g thing ht d _ G1 h1
    refine ⟨here', ?_, G2, e2, ?_⟩
    · rw [dn_eq, goF, if_pos (by omega)]
      have : (((g + d : Nat) : Int)).toNat = g + d := by omega
      rw [this]
      exact e1
    · -- one inversion less
      have hm : (here.map (fO other)).length = here.length := List.length_map ..
      have rowp : isRow (here.map (fO other)) = true := by
        have b := isRow_len hr
        refine isRow_mk (by rw [hm]; omega) (by rw [hm]; omega) ?_
        rw [hm, hlen]
        have := (G.pm.map (fO other))
        refine this.trans ?_
        have e : other.map (fO other) = rgN 0 other.length := map_idx hno
        rw [e]
      have ie := inv_exch (xs := here.map (fO other)) rowp (p := g + d) (by rw [hm]; exact hq)
      rw [← exch_map (fO other) here hq] at ie
      have g0 : (here.map (fO other))[g + d]'(by rw [hm]; omega) = ((idxI other y : Nat) : Int) := by rw [List.getElem_map, hy']; rfl
      have g1 : (here.map (fO other))[g + d + 1]'(by rw [hm]; exact hq) = (g : Int) := by rw [List.getElem_map, ht']; unfold fO; rw [tv]
      rw [g0, g1, if_neg (by omega)] at ie
      have rowp1 : isRow ((exchF here (g + d)).map (fO other)) = true := by
        rw [exch_map (fO other) here hq]
        exact exch_row rowp (by rw [hm]; exact hq)
      rw [inv_of rowp, inv_of rowp1] at ie
      unfold invO at e3 ⊢
      omega
/-- the places, from a goal on -/
def ledGo (other : List Int) : Nat → Nat → List Int → List Int
  | 0, _, _ => []
  | k + 1, g, here => (rgN g (idxI here (other.getD g 0) - g)).reverse ++ ledGo other k (g + 1) ((goF here (rgN g (idxI here (other.getD g 0) - g)).reverse).getD here)
def ledF (row other : List Int) : List Int := ledGo other other.length 0 row
theorem good_at {g : Nat} {here : List Int} (hr : isRow other = true) (G : Good other g here) {thing : Int} (ht : other[g]? = some thing) : ∃ d, idxI here thing = g + d ∧ here[g + d]? = some thing := by
  have tm : thing ∈ here := G.pm.mem_iff.mpr (List.mem_of_getElem? ht)
  obtain ⟨il, iv⟩ := idx_lt tm
  have e : here[idxI here thing]? = some thing := by rw [List.getElem?_eq_getElem il, iv]
  have ge : g ≤ idxI here thing := by
    rcases Nat.lt_or_ge (idxI here thing) g with z | z
    · have := G.pre _ z
      rw [e] at this
      have := get_inj (isRow_nodup hr) this.symm ht
      omega
    · exact z
  exact ⟨idxI here thing - g, by omega, by rw [show g + (idxI here thing - g) = idxI here thing by omega]; exact e⟩
theorem led_go (hr : isRow other = true) : ∀ (k g : Nat) (here : List Int), g + k = other.length → Good other g here → goF here (ledGo other k g here) = some other ∧ (ledGo other k g here).length = invO other here
  | 0, g, here, hg, G => by
    have e : here = other := by
      apply List.ext_getElem?
      intro i
      by_cases hi : i < g
      · exact G.pre i hi
      · rw [List.getElem?_eq_none (by have := G.pm.length_eq; omega), List.getElem?_eq_none (by omega)]
    subst e
    refine ⟨rfl, ?_⟩
    have e : here.map (fO here) = rgN 0 here.length := map_idx (isRow_nodup hr)
    unfold invO
    rw [e]
    have := inv_of (isRow_rg here.length (isRow_len hr).1 (isRow_len hr).2)
    have z : invIn (ranksIn (rgN 0 here.length)) = 0 := by
      have sr := rgN_sorted 0 here.length
      rw [this]
      have : ∀ xs : List Int, xs.Pairwise (· ≤ ·) → invL xs = 0 := by
        intro xs
        induction xs with
        | nil => intro _; rfl
        | cons x xs ih =>
          intro h
          rw [invL_cons, ih (List.pairwise_cons.mp h).2]
          have h1 := (List.pairwise_cons.mp h).1
          rw [List.countP_eq_zero.mpr (fun y hy => by have := h1 y hy; simp; omega)]
      rw [this _ sr]
      rfl
    rw [z] at this
    show ([] : List Int).length = _
    simp
    omega
  | k + 1, g, here, hg, G => by
    have gl : g < other.length := by omega
    have ht : other[g]? = some (other.getD g 0) := by simp [List.getD, gl]
    obtain ⟨d, e1, e2⟩ := good_at hr G ht
    obtain ⟨here', e3, G2, e4, e5⟩ := inner hr g _ ht d here G e2
    have G3 : Good other (g + 1) here' := ⟨G2.pm, fun i hi => by
      by_cases z : i < g
      · exact G2.pre i z
      · have : i = g := by omega
        subst this
        rw [e4, ht]⟩
    obtain ⟨r1, r2⟩ := led_go hr k (g + 1) here' (by omega) G3
    have dd : idxI here (other.getD g 0) - g = d := by omega
    rw [ledGo, dd, e3, Option.getD_some, goF_append, e3]
    refine ⟨r1, ?_⟩
    rw [List.length_append, r2, List.length_reverse, rgN_len, e5]
    omega
theorem led_ok {row : List Int} (hr : isRow other = true) (hp : row.Perm other) : goF row (ledF row other) = some other ∧ ((ledF row other).length : Int) = apartF row other := by
  obtain ⟨a, b⟩ := led_go hr other.length 0 row (by omega) ⟨hp, fun i hi => by omega⟩
  refine ⟨a, ?_⟩
  unfold apartF
  rw [inv_list]
  have : (ledF row other).length = invO other row := b
  rw [this]
  rfl
end
theorem row_perm {a b : List Int} (ha : isRow a = true) (hb : isRow b = true) (h : a.length = b.length) : a.Perm b := by
  have p1 := isRow_perm ha
  have p2 := isRow_perm hb
  rw [h] at p1
  exact p1.trans p2.symm
end DL
/-! The store layer, 1: values that may be handles of cells that change; stores; heaps that hold a store. -/
namespace ML
open PySem L2 DL
inductive MV where
  | da (d : D)
  | hd (i : Nat)
inductive Cell where
  | lst (ms : List MV)
  | ins (c : Str) (ns : List Str) (ms : List MV)
  | raw (o : HO)
abbrev Sto := List Cell
inductive T (α : Type) where
  | ok (a : α) (μ : Sto)
  | err (c : Str) (μ : Sto)
  | bad
def T.bind {α β : Type} (t : T α) (g : α → Sto → T β) : T β := match t with
  | .ok a μ => g a μ
  | .err c μ => .err c μ
  | .bad => .bad
@[simp] theorem T.bind_ok {α β : Type} (a : α) (μ : Sto) (g : α → Sto → T β) : (T.ok a μ).bind g = g a μ := id rfl
@[simp] theorem T.bind_err {α β : Type} (c : Str) (μ : Sto) (g : α → Sto → T β) : (T.err c μ).bind g = .err c μ := id rfl
@[simp] theorem T.bind_bad {α β : Type} (g : α → Sto → T β) : (T.bad : T α).bind g = .bad := id rfl
/-- what a pure meaning gives, at a store -/
def up {α β : Type} (r : R α) (μ : Sto) (g : α → T β) : T β := match r with
  | .ok a => g a
  | .err c => .err c μ
  | .bad => .bad
@[simp] theorem up_ok {α β : Type} (a : α) (μ : Sto) (g : α → T β) : up (.ok a) μ g = g a := id rfl
@[simp] theorem up_err {α β : Type} (c : Str) (μ : Sto) (g : α → T β) : up (.err c) μ g = .err c μ := id rfl
@[simp] theorem up_bad {α β : Type} (μ : Sto) (g : α → T β) : up (.bad) μ g = .bad := id rfl
/-! ### values -/
section
variable (K : PySem.W.Frag) (mg : Str → Option Value)
def RvM (F : Hp) (θ : List Addr) (v : V) : MV → Prop
  | .da d => Rp K mg F v d
  | .hd i => ∃ a, θ[i]? = some a ∧ v = .ref a
inductive RvMs (F : Hp) (θ : List Addr) : List V → List MV → Prop
  | nil : RvMs F θ [] []
  | cons {v : V} {vs : List V} {m : MV} {ms : List MV} : RvM K mg F θ v m → RvMs F θ vs ms → RvMs F θ (v :: vs) (m :: ms)
inductive RoM (F : Hp) (θ : List Addr) : HO → Cell → Prop
  | lst {xs : List V} {ms : List MV} : RvMs K mg F θ xs ms → RoM F θ (.lst xs) (.lst ms)
  | ins {C dx : Addr} {fs : List (Str × V)} {c : Str} {ms : List MV} : mg c = some (.ref C) → RvMs K mg F θ (fs.map (·.2)) ms → RoM F θ (.ins C dx fs) (.ins c (fs.map (·.1)) ms)
  | raw (o : HO) : RoM F θ o (.raw o)
structure HeapM (F H : Hp) (θ : List Addr) (μ : Sto) : Prop where
  fh : Same F H
  len : θ.length = μ.length
  nd : θ.Nodup
  cell : ∀ (i : Nat) c, μ[i]? = some c → ∃ a o, θ[i]? = some a ∧ F a = none ∧ H a = some o ∧ RoM K mg F θ o c
end
structure StpM (F H : Hp) (θ : List Addr) (F2 H2 : Hp) (θ2 : List Addr) : Prop where
  f : Same F F2
  pre : ∃ new, θ2 = θ ++ new ∧ ∀ a ∈ new, H a = none
  old : ∀ a, H a ≠ none → F2 a = F a
  keep : ∀ a o, H a = some o → a ∉ θ → H2 a = some o
  live : ∀ a, H a ≠ none → H2 a ≠ none
theorem nodup_get {α : Type} : ∀ {l : List α} {i j : Nat} {a : α}, l.Nodup → l[i]? = some a → l[j]? = some a → i = j
  | [], _, _, _, _, h, _ => by simp at h
  | x :: l, 0, 0, _, _, _, _ => rfl
  | x :: l, 0, j + 1, a, n, h1, h2 => by
    simp only [List.getElem?_cons_zero, Option.some.injEq, List.getElem?_cons_succ] at h1 h2
    subst h1
    exact absurd (List.mem_of_getElem? h2) (List.nodup_cons.mp n).1
  | x :: l, i + 1, 0, a, n, h1, h2 => by
    simp only [List.getElem?_cons_zero, Option.some.injEq, List.getElem?_cons_succ] at h1 h2
    subst h2
    exact absurd (List.mem_of_getElem? h1) (List.nodup_cons.mp n).1
  | x :: l, i + 1, j + 1, a, n, h1, h2 => by
    exact congrArg (· + 1) (nodup_get (List.nodup_cons.mp n).2 (by simpa using h1) (by simpa using h2))
def Pre (θ θ2 : List Addr) : Prop := ∃ new, θ2 = θ ++ new
theorem Pre.refl (θ : List Addr) : Pre θ θ := ⟨[], by simp⟩
theorem Pre.get {θ θ2 : List Addr} (p : Pre θ θ2) {i : Nat} {a : Addr} (h : θ[i]? = some a) : θ2[i]? = some a := by
  obtain ⟨new, rfl⟩ := p
  rw [List.getElem?_append_left (List.getElem?_eq_some_iff.mp h).1]
  exact h
theorem StpM.p {F H F2 H2 : Hp} {θ θ2 : List Addr} (s : StpM F H θ F2 H2 θ2) : Pre θ θ2 := by
  obtain ⟨new, e, _⟩ := s.pre
  exact ⟨new, e⟩
theorem StpM.refl (F H : Hp) (θ : List Addr) : StpM F H θ F H θ := ⟨Same.refl F, ⟨[], by simp, fun a h => by cases h⟩, fun _ _ => rfl, fun _ _ h _ => h, fun _ h => h⟩
theorem StpM.trans {F H F1 H1 F2 H2 : Hp} {θ θ1 θ2 : List Addr} (a : StpM F H θ F1 H1 θ1) (b : StpM F1 H1 θ1 F2 H2 θ2) : StpM F H θ F2 H2 θ2 := by
  obtain ⟨n1, e1, f1⟩ := a.pre
  obtain ⟨n2, e2, f2⟩ := b.pre
  have dn : ∀ x, H1 x = none → H x = none := fun x h => by
    cases q : H x with
    | none => rfl
    | some o => exact absurd h (a.live x (by rw [q]; exact fun z => nomatch z))
  refine ⟨a.f.trans b.f, ⟨n1 ++ n2, by rw [e2, e1, List.append_assoc], fun x hx => ?_⟩, fun x hx => (b.old x (a.live x hx)).trans (a.old x hx), fun x o hx hn => b.keep x o (a.keep x o hx hn) ?_, fun x hx => b.live x (a.live x hx)⟩
  · rcases List.mem_append.mp hx with h | h
    · exact f1 x h
    · exact dn x (f2 x h)
  · rw [e1, List.mem_append, not_or]
    exact ⟨hn, fun z => by rw [f1 x z] at hx; cases hx⟩
theorem StpM.ofSame {F H H2 : Hp} (θ : List Addr) (e : Same H H2) : StpM F H θ F H2 θ := ⟨Same.refl F, ⟨[], by simp, fun a h => by cases h⟩, fun _ _ => rfl, fun a o h _ => e a o h, fun _ h => same_ne e h⟩
theorem StpM.ofStp {F H F2 H2 : Hp} (θ : List Addr) (s : Stp F H F2 H2) : StpM F H θ F2 H2 θ := ⟨s.f, ⟨[], by simp, fun a h => by cases h⟩, s.old, fun a o h _ => s.h a o h, fun _ h => same_ne s.h h⟩
section
variable {K : PySem.W.Frag} {mg : Str → Option Value} {F F2 H H2 : Hp} {θ θ2 : List Addr} {μ : Sto}
theorem RvM.mono (e : Same F F2) (p : Pre θ θ2) {v : V} : ∀ {m : MV}, RvM K mg F θ v m → RvM K mg F2 θ2 v m
  | .da d, h => Rp.mono e h
  | .hd i, h => by
    obtain ⟨a, h1, h2⟩ := h
    exact ⟨a, p.get h1, h2⟩
theorem RvMs.mono (e : Same F F2) (p : Pre θ θ2) : ∀ {vs : List V} {ms : List MV}, RvMs K mg F θ vs ms → RvMs K mg F2 θ2 vs ms
  | _, _, .nil => .nil
  | _, _, .cons h r => .cons (h.mono e p) (RvMs.mono e p r)
theorem RvMs.length : ∀ {vs : List V} {ms : List MV}, RvMs K mg F θ vs ms → vs.length = ms.length
  | _, _, .nil => rfl
  | _, _, .cons _ r => congrArg (· + 1) (RvMs.length r)
theorem RvMs.get : ∀ {vs : List V} {ms : List MV} {i : Nat} {m : MV}, RvMs K mg F θ vs ms → ms[i]? = some m → ∃ v, vs[i]? = some v ∧ RvM K mg F θ v m
  | _, _, _, _, .nil, e => by simp at e
  | _, _, 0, _, .cons h _, e => by simp at e; subst e; exact ⟨_, rfl, h⟩
  | _, _, i + 1, d, .cons _ r, e => by
    obtain ⟨v, h1, h2⟩ := RvMs.get (i := i) r (by simpa using e)
    exact ⟨v, by simpa using h1, h2⟩
theorem RvMs.append : ∀ {vs ws : List V} {ms ns : List MV}, RvMs K mg F θ vs ms → RvMs K mg F θ ws ns → RvMs K mg F θ (vs ++ ws) (ms ++ ns)
  | _, _, _, _, .nil, s => s
  | _, _, _, _, .cons h r, s => .cons h (RvMs.append r s)
theorem RvMs.take : ∀ {vs : List V} {ms : List MV} (n : Nat), RvMs K mg F θ vs ms → RvMs K mg F θ (vs.take n) (ms.take n)
  | _, _, 0, _ => .nil
  | _, _, _ + 1, .nil => .nil
  | _, _, n + 1, .cons h r => .cons h (RvMs.take n r)
theorem RvMs.reverse : ∀ {vs : List V} {ms : List MV}, RvMs K mg F θ vs ms → RvMs K mg F θ vs.reverse ms.reverse
  | _, _, .nil => .nil
  | _, _, .cons h r => by
    rw [List.reverse_cons, List.reverse_cons]
    exact RvMs.append (RvMs.reverse r) (.cons h .nil)
theorem RvMs.set {v : V} {m : MV} (h0 : RvM K mg F θ v m) : ∀ {vs : List V} {ms : List MV} (i : Nat), RvMs K mg F θ vs ms → RvMs K mg F θ (vs.set i v) (ms.set i m)
  | _, _, _, .nil => .nil
  | _, _, 0, .cons _ r => .cons h0 r
  | _, _, i + 1, .cons h r => .cons h (RvMs.set h0 i r)
theorem RvMs.ofRps : ∀ {vs : List V} {ds : List D}, Rps K mg F vs ds → RvMs K mg F θ vs (ds.map .da)
  | _, _, .nil => .nil
  | _, _, .cons h r => .cons h (RvMs.ofRps r)
theorem RvMs.toRps : ∀ {vs : List V} {ds : List D}, RvMs K mg F θ vs (ds.map .da) → Rps K mg F vs ds
  | _, [], .nil => .nil
  | _, d :: ds, .cons h r => .cons h (RvMs.toRps r)
theorem RoM.mono (e : Same F F2) (p : Pre θ θ2) {o : HO} {c : Cell} (h : RoM K mg F θ o c) : RoM K mg F2 θ2 o c := by
  cases h with
  | lst r => exact .lst (r.mono e p)
  | ins m r => exact .ins m (r.mono e p)
  | raw o => exact .raw o
theorem HeapM.grow (h : HeapM K mg F H θ μ) (e : Same H H2) : HeapM K mg F H2 θ μ := ⟨h.fh.trans e, h.len, h.nd, fun i c hc => by
  obtain ⟨a, o, h1, h2, h3, h4⟩ := h.cell i c hc
  exact ⟨a, o, h1, h2, e _ _ h3, h4⟩⟩
theorem HeapM.step (h : HeapM K mg F H θ μ) (s : Stp F H F2 H2) : HeapM K mg F2 H2 θ μ := ⟨s.fh, h.len, h.nd, fun i c hc => by
  obtain ⟨a, o, h1, h2, h3, h4⟩ := h.cell i c hc
  exact ⟨a, o, h1, (s.old a (by rw [h3]; exact fun z => nomatch z)).trans h2, s.h _ _ h3, h4.mono s.f (Pre.refl θ)⟩⟩
theorem HeapM.inTh (h : HeapM K mg F H θ μ) {a : Addr} (ha : a ∈ θ) : F a = none ∧ ∃ o, H a = some o := by
  obtain ⟨i, hi, e⟩ := List.getElem_of_mem ha
  have hi2 : i < μ.length := by rw [← h.len]; exact hi
  obtain ⟨b, o, h1, h2, h3, _⟩ := h.cell i _ (List.getElem?_eq_getElem hi2)
  rw [List.getElem?_eq_getElem hi] at h1
  cases h1
  rw [e] at h2 h3
  exact ⟨h2, o, h3⟩
/-- a new cell -/
theorem HeapM.snoc {p : Addr} {o : HO} {c : Cell} (h : HeapM K mg F H θ μ) (hp : p ∉ θ) (hF : F p = none) (hH : H p = some o) (ho : RoM K mg F (θ ++ [p]) o c) : HeapM K mg F H (θ ++ [p]) (μ ++ [c]) where
  fh := h.fh
  len := by rw [List.length_append, List.length_append, h.len]; rfl
  nd := by
    refine List.nodup_append.mpr ⟨h.nd, by simp, fun a ha b hb => ?_⟩
    rw [List.mem_singleton] at hb
    subst hb
    exact fun z => hp (z ▸ ha)
  cell := fun i d hd => by
    rcases get_snoc hd with ⟨hi, hd⟩ | ⟨hi, hd⟩
    · obtain ⟨a, o', h1, h2, h3, h4⟩ := h.cell i d hd
      exact ⟨a, o', Pre.get ⟨[p], rfl⟩ h1, h2, h3, h4.mono (Same.refl F) ⟨[p], rfl⟩⟩
    · subst hd
      refine ⟨p, o, ?_, hF, hH, ho⟩
      rw [hi, ← h.len, List.getElem?_append_right (Nat.le_refl _), Nat.sub_self]
      rfl
theorem StpM.snoc {p : Addr} (e : Same H H2) (hp : H p = none) : StpM F H θ F H2 (θ ++ [p]) := ⟨Same.refl F, ⟨[p], rfl, fun a ha => by rw [List.mem_singleton] at ha; rw [ha]; exact hp⟩, fun _ _ => rfl, fun a o h _ => e a o h, fun _ h => same_ne e h⟩
theorem StpM.snocS {p : Addr} (s : Stp F H F2 H2) (hp : H p = none) : StpM F H θ F2 H2 (θ ++ [p]) := ⟨s.f, ⟨[p], rfl, fun a ha => by rw [List.mem_singleton] at ha; rw [ha]; exact hp⟩, s.old, fun a o h _ => s.h a o h, fun _ h => same_ne s.h h⟩
theorem HeapM.notIn (h : HeapM K mg F H θ μ) {p : Addr} (hp : H p = none) : p ∉ θ := fun z => by
  obtain ⟨_, o, q⟩ := h.inTh z
  rw [hp] at q
  cases q
/-- a cell changes -/
theorem HeapM.write {i : Nat} {a : Addr} {o : HO} {c : Cell} (h : HeapM K mg F H θ μ) (ha : θ[i]? = some a) (ho : RoM K mg F θ o c) : HeapM K mg F (upd H a o) θ (μ.set i c) where
  fh := fun b x hb => by
    have : b ≠ a := fun z => by
      subst z
      have := (h.inTh (List.mem_of_getElem? ha)).1
      rw [this] at hb
      cases hb
    rw [upd_ne this]
    exact h.fh b x hb
  len := by rw [List.length_set]; exact h.len
  nd := h.nd
  cell := fun j d hd => by
    rcases get_set hd with ⟨rfl, hd, _⟩ | ⟨ne, hd⟩
    · subst hd
      exact ⟨a, o, ha, (h.inTh (List.mem_of_getElem? ha)).1, upd_same, ho⟩
    · obtain ⟨b, o', h1, h2, h3, h4⟩ := h.cell j d hd
      have : b ≠ a := fun z => by
        subst z
        exact ne (nodup_get h.nd ha h1)
      exact ⟨b, o', h1, h2, by rw [upd_ne this]; exact h3, h4⟩
theorem StpM.write {a : Addr} {o : HO} (ha : a ∈ θ) : StpM F H θ F (upd H a o) θ := ⟨Same.refl F, ⟨[], by simp, fun a h => by cases h⟩, fun _ _ => rfl, fun b x h hn => by
  have : b ≠ a := fun z => hn (z ▸ ha)
  rw [upd_ne this]
  exact h, fun b h => by
  by_cases e : b = a
  · subst e; rw [upd_same]; exact fun z => nomatch z
  · rw [upd_ne e]; exact h⟩
end
/-! ### snapshots -/
def optAll {α β : Type} (f : α → Option β) : List α → Option (List β)
  | [] => some []
  | a :: as => (f a).bind fun b => (optAll f as).map fun bs => b :: bs
def snap (μ : Sto) : Nat → MV → Option D
  | _, .da d => some d
  | 0, .hd _ => none
  | k + 1, .hd i => match μ[i]? with
    | some (.lst ms) => (optAll (snap μ k) ms).map D.lst
    | some (.ins c ns ms) => (optAll (snap μ k) ms).map (D.obj c ns)
    | _ => none
abbrev MEnv := List (Option MV)
def snE (μ : Sto) (ρ : MEnv) : DL.Env := ρ.map fun x => x.bind (snap μ 3)
def MV.fz : MV → Option D
  | .da d => some d
  | .hd _ => none
def hdM (ρ : MEnv) : DL.Env := ρ.map fun x => x.bind MV.fz
structure EnvM (K : PySem.W.Frag) (mg : Str → Option Value) (F : Hp) (θ : List Addr) (σ : L2.St) (ρ : MEnv) : Prop where
  len : σ.length = ρ.length
  var : ∀ (i : Nat) m, ρ[i]? = some (some m) → ∃ v, σ[i]? = some (some v) ∧ RvM K mg F θ v m
section
variable {K : PySem.W.Frag} {mg : Str → Option Value} {F F2 H H2 : Hp} {θ θ2 : List Addr} {μ : Sto} {σ : L2.St} {ρ : MEnv}
theorem snaps_rp {k : Nat} (ih : ∀ (v : V) (m : MV) (d : D), RvM K mg F θ v m → snap μ k m = some d → Rp K mg H v d) : ∀ {vs : List V} {ms : List MV} {ds : List D}, RvMs K mg F θ vs ms → optAll (snap μ k) ms = some ds → Rps K mg H vs ds
  | _, _, ds, .nil, e => by cases e; exact .nil
  | _, _, ds, .cons (v := v) (m := m) h r, e => by
    unfold optAll at e
    cases hm : snap μ k m with
    | none => rw [hm] at e; cases e
    | some d =>
      rw [hm] at e
      simp only [Option.bind_some] at e
      obtain ⟨bs, hb, rfl⟩ := Option.map_eq_some_iff.mp e
      exact .cons (ih v m d h hm) (snaps_rp ih r hb)
theorem snap_rp (h : HeapM K mg F H θ μ) : ∀ (k : Nat) (v : V) (m : MV) (d : D), RvM K mg F θ v m → snap μ k m = some d → Rp K mg H v d
  | 0, v, .da d, d', r, e => by
    unfold snap at e; cases e; exact Rp.mono h.fh r
  | k + 1, v, .da d, d', r, e => by
    unfold snap at e; cases e; exact Rp.mono h.fh r
  | 0, v, .hd i, d, r, e => by unfold snap at e; cases e
  | k + 1, v, .hd i, d, r, e => by
    obtain ⟨a, ha, rfl⟩ := r
    unfold snap at e
    cases hc : μ[i]? with
    | none => rw [hc] at e; cases e
    | some c =>
      rw [hc] at e
      obtain ⟨b, o, h1, h2, h3, h4⟩ := h.cell i c hc
      rw [ha] at h1
      cases h1
      cases h4 with
      | lst rr =>
        obtain ⟨ds, hb, rfl⟩ := Option.map_eq_some_iff.mp e
        exact .lst h3 (snaps_rp (snap_rp h k) rr hb)
      | ins hm rr =>
        obtain ⟨ds, hb, rfl⟩ := Option.map_eq_some_iff.mp e
        exact .obj hm h3 (snaps_rp (snap_rp h k) rr hb)
      | raw o => cases e
theorem EnvM.mono (e : Same F F2) (p : Pre θ θ2) (h : EnvM K mg F θ σ ρ) : EnvM K mg F2 θ2 σ ρ := ⟨h.len, fun i m q => by
  obtain ⟨v, h1, h2⟩ := h.var i m q
  exact ⟨v, h1, h2.mono e p⟩⟩
theorem EnvM.snap (hp : HeapM K mg F H θ μ) (h : EnvM K mg F θ σ ρ) : EnvR K mg H σ (snE μ ρ) := ⟨by unfold snE; rw [List.length_map]; exact h.len, fun i d q => by
  unfold snE at q
  rw [List.getElem?_map] at q
  cases hq : ρ[i]? with
  | none => rw [hq] at q; cases q
  | some x =>
    rw [hq] at q
    cases x with
    | none => cases q
    | some m =>
      obtain ⟨v, h1, h2⟩ := h.var i m hq
      have q : some (ML.snap μ 3 m) = some (some d) := q
      exact ⟨v, h1, snap_rp hp 3 v m d h2 (Option.some.inj q)⟩⟩
theorem EnvM.fz (h : EnvM K mg F θ σ ρ) : EnvR K mg F σ (hdM ρ) := ⟨by unfold hdM; rw [List.length_map]; exact h.len, fun i d q => by
  unfold hdM at q
  rw [List.getElem?_map] at q
  cases hq : ρ[i]? with
  | none => rw [hq] at q; cases q
  | some x =>
    rw [hq] at q
    cases x with
    | none => cases q
    | some m =>
      obtain ⟨v, h1, h2⟩ := h.var i m hq
      cases m with
      | hd j => cases q
      | da d' => cases q; exact ⟨v, h1, h2⟩⟩
theorem EnvM.set {i : Nat} {v : V} {m : MV} (h : EnvM K mg F θ σ ρ) (r : RvM K mg F θ v m) : EnvM K mg F θ (σ.set i (some v)) (ρ.set i (some m)) := ⟨by rw [List.length_set, List.length_set, h.len], fun j e q => by
  rcases get_set q with ⟨rfl, e', hi⟩ | ⟨ne, q⟩
  · cases e'
    exact ⟨v, List.getElem?_set_self (by rw [h.len]; exact hi), r⟩
  · rw [List.getElem?_set_ne ne]
    exact h.var j e q⟩
theorem EnvM.unset {i : Nat} (h : EnvM K mg F θ σ ρ) : EnvM K mg F θ (σ.set i none) (ρ.set i none) := ⟨by rw [List.length_set, List.length_set, h.len], fun j e q => by
  rcases get_set q with ⟨rfl, e', hi⟩ | ⟨ne, q⟩
  · cases e'
  · rw [List.getElem?_set_ne ne]
    exact h.var j e q⟩
end
/-! ### what a result wants -/
def FinG {α β : Type} (K : PySem.W.Frag) (mg : Str → Option Value) (E : XK) (Rl : Hp → List Addr → β → α → Prop) (F H : Hp) (θ : List Addr) (Q : β → Hp → Prop) : T α → Prop
  | .ok a μ => ∀ b F2 H2 θ2, StpM F H θ F2 H2 θ2 → HeapM K mg F2 H2 θ2 μ → Rl F2 θ2 b a → Q b H2
  | .err c μ => ∀ C F2 H2 θ2, StpM F H θ F2 H2 θ2 → HeapM K mg F2 H2 θ2 μ → mg c = some (.ref C) → E (.ref C) none H2
  | .bad => False
def tGM {α β : Type} (K : PySem.W.Frag) (mg : Str → Option Value) (E : XK) (Rl : Hp → List Addr → β → α → Prop) (f : MEnv → Sto → T α) : L2.St → Hp → (β → Hp → Prop) → Prop := fun σ H Q => ∃ F θ ρ μ, HeapM K mg F H θ μ ∧ EnvM K mg F θ σ ρ ∧ FinG K mg E Rl F H θ Q (f ρ μ)
abbrev tM (K : PySem.W.Frag) (mg : Str → Option Value) (E : XK) (f : MEnv → Sto → T MV) : TE := tGM K mg E (RvM K mg) f
abbrev tMs (K : PySem.W.Frag) (mg : Str → Option Value) (E : XK) (f : MEnv → Sto → T (List MV)) : TA := tGM K mg E (RvMs K mg) f
abbrev tMT (K : PySem.W.Frag) (mg : Str → Option Value) (E : XK) (f : MEnv → Sto → T Bool) : TT := tGM K mg E (fun _ _ b a => b = a) f
abbrev PM (X : Cx) (E : XK) (e : Expr) (f : MEnv → Sto → T MV) : Prop := PE X e (tM X.K X.mg E f)
abbrev PMs (X : Cx) (E : XK) (es : List Expr) (f : MEnv → Sto → T (List MV)) : Prop := PA X es (tMs X.K X.mg E f)
abbrev PMT (X : Cx) (E : XK) (e : Expr) (f : MEnv → Sto → T Bool) : Prop := PT X e (tMT X.K X.mg E f)
abbrev PMW (X : Cx) (E : XK) (e : Expr) (f : MEnv → Sto → T Bool) : Prop := PW X e (tMT X.K X.mg E f)
section
variable {K : PySem.W.Frag} {mg : Str → Option Value} {E : XK} {F F1 H H1 : Hp} {θ θ1 : List Addr} {μ : Sto} {σ : L2.St} {ρ : MEnv}
theorem FinG.step {α β : Type} {Rl : Hp → List Addr → β → α → Prop} {Q : β → Hp → Prop} {t : T α} (s : StpM F H θ F1 H1 θ1) (h : FinG K mg E Rl F H θ Q t) : FinG K mg E Rl F1 H1 θ1 Q t := by
  cases t with
  | ok a μ => exact fun b F2 H2 θ2 s2 hp r => h b F2 H2 θ2 (s.trans s2) hp r
  | err c μ => exact fun C F2 H2 θ2 s2 hp m => h C F2 H2 θ2 (s.trans s2) hp m
  | bad => exact h
/-- a part is run, then the rest -/
theorem tGM_step {α β α' β' : Type} {Rl : Hp → List Addr → β → α → Prop} {Rl' : Hp → List Addr → β' → α' → Prop} {f : MEnv → Sto → T α} {g : α → Sto → T α'} {Q : β' → Hp → Prop} {Q' : β → Hp → Prop} (hp : HeapM K mg F H θ μ) (en : EnvM K mg F θ σ ρ) (fin : FinG K mg E Rl' F H θ Q ((f ρ μ).bind g))
    (k : ∀ b a μ1 F1 H1 θ1, StpM F H θ F1 H1 θ1 → HeapM K mg F1 H1 θ1 μ1 → EnvM K mg F1 θ1 σ ρ → Rl F1 θ1 b a → FinG K mg E Rl' F1 H1 θ1 Q (g a μ1) → Q' b H1) : tGM K mg E Rl f σ H Q' := by
  refine ⟨F, θ, ρ, μ, hp, en, ?_⟩
  cases hf : f ρ μ with
  | ok a μ1 => rw [hf] at fin; exact fun b F1 H1 θ1 s h1 r => k b a μ1 F1 H1 θ1 s h1 (en.mono s.f s.p) r (FinG.step s fin)
  | err c μ1 => rw [hf] at fin; exact fin
  | bad => rw [hf] at fin; exact fin
end
end ML
/-! The store layer, 2: expressions. -/
namespace ML
open PySem L2 DL
abbrev EM := MEnv → Sto → T MV
/-! pure parts: on a snapshot (flat result), on what is frozen -/
def xF (f : DL.Env → R D) : EM := fun ρ μ => up (f (snE μ ρ)) μ fun d => if flatD d then .ok (.da d) μ else .bad
def xH (f : DL.Env → R D) : EM := fun ρ μ => up (f (hdM ρ)) μ fun d => .ok (.da d) μ
def xN (f : DL.Env → R (List D)) : EM := fun ρ μ => up (f (snE μ ρ)) μ fun ds => if ds.all flatD then .ok (.hd μ.length) (μ ++ [.lst (ds.map .da)]) else .bad
def xNH (f : DL.Env → R (List D)) : EM := fun ρ μ => up (f (hdM ρ)) μ fun ds => .ok (.hd μ.length) (μ ++ [.lst (ds.map .da)])
def xFN (f : DL.Env → R (List D)) : EM := fun ρ μ => up (f (snE μ ρ)) μ fun ds => if ds.all flatD then .ok (.da (.lst ds)) μ else .bad
def xV (i : Nat) : EM := fun ρ μ => match ρ[i]? with
  | some (some m) => .ok m μ
  | _ => .bad
def bF2 (t : DL.Env → R Bool) : MEnv → Sto → T Bool := fun ρ μ => up (t (snE μ ρ)) μ fun b => .ok b μ
def yNil : MEnv → Sto → T (List MV) := fun _ μ => .ok [] μ
def yCons (f : EM) (fs : MEnv → Sto → T (List MV)) : MEnv → Sto → T (List MV) := fun ρ μ => (f ρ μ).bind fun a μ1 => (fs ρ μ1).bind fun as μ2 => .ok (a :: as) μ2
def opM (o : D → D → R D) (a b : MV) (μ : Sto) : T MV := match a, b with
  | .da x, .da y => up (o x y) μ fun d => .ok (.da d) μ
  | _, _ => .bad
def xOp (o : D → D → R D) (f g : EM) : EM := fun ρ μ => (f ρ μ).bind fun a μ1 => (g ρ μ1).bind fun b μ2 => opM o a b μ2
def asBM (a : MV) (μ : Sto) : T Bool := match a with
  | .da (.bl b) => .ok b μ
  | _ => .bad
def bM (f : EM) : MEnv → Sto → T Bool := fun ρ μ => (f ρ μ).bind asBM
def bNot2 (t : MEnv → Sto → T Bool) : MEnv → Sto → T Bool := fun ρ μ => (t ρ μ).bind fun b μ1 => .ok (!b) μ1
def bAnd2 (t u : MEnv → Sto → T Bool) : MEnv → Sto → T Bool := fun ρ μ => (t ρ μ).bind fun b μ1 => if b then u ρ μ1 else .ok false μ1
def bOr2 (t u : MEnv → Sto → T Bool) : MEnv → Sto → T Bool := fun ρ μ => (t ρ μ).bind fun b μ1 => if b then .ok true μ1 else u ρ μ1
def xAnd (f g : EM) : EM := fun ρ μ => (f ρ μ).bind fun a μ1 => (asBM a μ1).bind fun b μ2 => if b then g ρ μ2 else .ok (.da (.bl false)) μ2
def xOr (f g : EM) : EM := fun ρ μ => (f ρ μ).bind fun a μ1 => (asBM a μ1).bind fun b μ2 => if b then .ok (.da (.bl true)) μ2 else g ρ μ2
def xNot (f : EM) : EM := fun ρ μ => (f ρ μ).bind fun a μ1 => (asBM a μ1).bind fun b μ2 => .ok (.da (.bl !b)) μ2
def xIf (t : MEnv → Sto → T Bool) (f g : EM) : EM := fun ρ μ => (t ρ μ).bind fun b μ1 => if b then f ρ μ1 else g ρ μ1
/-- all data -/
def dataOf : List MV → Option (List D)
  | [] => some []
  | .da d :: r => (dataOf r).map fun ds => d :: ds
  | .hd _ :: _ => none
def callP (o : List D → R D) (as : List MV) (μ : Sto) : T MV := match dataOf as with
  | some ds => up (o ds) μ fun d => .ok (.da d) μ
  | none => .bad
def xCallP (o : List D → R D) (fs : MEnv → Sto → T (List MV)) : EM := fun ρ μ => (fs ρ μ).bind (callP o)
/-- (a, b): all data -/
def xTup (fs : MEnv → Sto → T (List MV)) : EM := fun ρ μ => (fs ρ μ).bind fun as μ1 => match dataOf as with
  | some ds => if ds.length ≤ 100000 then .ok (.da (.tup ds)) μ1 else .bad
  | none => .bad
/-- [a, b]: a new cell -/
def xLst (fs : MEnv → Sto → T (List MV)) : EM := fun ρ μ => (fs ρ μ).bind fun as μ1 => if as.length ≤ 100000 then .ok (.hd μ1.length) (μ1 ++ [.lst as]) else .bad
/-- [a, b]: all data -/
def xLstD (fs : MEnv → Sto → T (List MV)) : EM := fun ρ μ => (fs ρ μ).bind fun as μ1 => match dataOf as with
  | some ds => if ds.length ≤ 100000 then .ok (.da (.lst ds)) μ1 else .bad
  | none => .bad
def callM {α : Type} (n : Nat) (q : List MV → Sto → T α) : List MV → Sto → T α := fun as μ => if as.length = n then q as μ else .bad
def xCall (q : List MV → Sto → T MV) (fs : MEnv → Sto → T (List MV)) : EM := fun ρ μ => (fs ρ μ).bind q
def fldM (cs : List Str) (fl : Str) (a : MV) (μ : Sto) : T MV := match a with
  | .da d => up (oFld cs fl d) μ fun d => .ok (.da d) μ
  | .hd i => match μ[i]? with
    | some (.ins c ns ms) => if c ∈ cs then (match (ns.zip ms).lookup fl with | some m => .ok m μ | none => .bad) else .bad
    | _ => .bad
def xFld (cs : List Str) (fl : Str) (f : EM) : EM := fun ρ μ => (f ρ μ).bind (fldM cs fl)
def appM (a m : MV) (μ : Sto) : T MV := match a with
  | .hd i => match μ[i]? with
    | some (.lst ms) => if ms.length < 100000 then .ok (.da .non) (μ.set i (.lst (ms ++ [m]))) else .bad
    | _ => .bad
  | _ => .bad
def isLst (a : MV) (μ : Sto) : T Unit := match a with
  | .hd i => match μ[i]? with
    | some (.lst _) => .ok () μ
    | _ => .bad
  | _ => .bad
def xApp (f g : EM) : EM := fun ρ μ => (f ρ μ).bind fun a μ1 => (isLst a μ1).bind fun _ μ2 => (g ρ μ2).bind fun m μ3 => appM a m μ3
def popM (a : MV) (μ : Sto) : T MV := match a with
  | .hd i => match μ[i]? with
    | some (.lst ms) => (match ms[ms.length - 1]? with | some m => .ok m (μ.set i (.lst ms.dropLast)) | none => .bad)
    | _ => .bad
  | _ => .bad
def xPop (f : EM) : EM := fun ρ μ => (f ρ μ).bind popM
def revM (a : MV) (μ : Sto) : T MV := match a with
  | .hd i => match μ[i]? with
    | some (.lst ms) => .ok (.da .non) (μ.set i (.lst ms.reverse))
    | _ => .bad
  | _ => .bad
def xRev (f : EM) : EM := fun ρ μ => (f ρ μ).bind revM
/-- one of two readings -/
def xAlt (f g : EM) : EM := fun ρ μ => match f ρ μ with
  | .bad => g ρ μ
  | r => r
/-! ### rules -/
section
variable {K : PySem.W.Frag} {mg : Str → Option Value} {E : XK} {F F1 H H1 H2 : Hp} {θ θ1 : List Addr} {μ : Sto} {σ : L2.St} {ρ : MEnv}
/-- a pure part in the frozen heap -/
theorem FinG.toFin {Q : VK} {r : R D} (hp : HeapM K mg F H θ μ) (h : FinG K mg E (RvM K mg) F H θ Q (up r μ fun d => .ok (.da d) μ)) : Fin K mg E F H Q r := by
  cases r with
  | ok d => exact fun v F2 H2 s rp => h v F2 H2 θ (StpM.ofStp θ s) (hp.step s) rp
  | err c => exact fun C H2 e m => h C F H2 θ (StpM.ofSame θ e) (hp.grow e) m
  | bad => exact h
theorem HeapM.freeze {p : Addr} {o : HO} (hp : HeapM K mg F H θ μ) (hn : p ∉ θ) (hF : F p = none) (hH : H p = some o) : HeapM K mg (upd F p o) H θ μ := ⟨fun b x q => by
    by_cases hb : b = p
    · subst hb
      rw [upd_same] at q
      rw [hH]; exact q
    · rw [upd_ne hb] at q
      exact hp.fh b x q, hp.len, hp.nd, fun i c hc => by
  obtain ⟨a, o', h1, h2, h3, h4⟩ := hp.cell i c hc
  have : a ≠ p := fun z => hn (z ▸ List.mem_of_getElem? h1)
  exact ⟨a, o', h1, by rw [upd_ne this]; exact h2, h3, h4.mono (same_upd hF) (Pre.refl θ)⟩⟩
theorem StpM.freeze {p : Addr} {o : HO} (e : Same H H2) (hF : F p = none) (hp : H p = none) : StpM F H θ (upd F p o) H2 θ := ⟨same_upd hF, ⟨[], by simp, fun a h => by cases h⟩, fun a ha => upd_ne fun z => ha (z ▸ hp), fun a o h _ => e a o h, fun _ h => same_ne e h⟩
theorem dataOf_rps : ∀ {as : List MV} {ds : List D} {vs : List V}, dataOf as = some ds → RvMs K mg F θ vs as → Rps K mg F vs ds
  | [], ds, _, h, .nil => by cases h; exact .nil
  | .da d :: r, ds, _, h, .cons h1 h2 => by
    unfold dataOf at h
    obtain ⟨es, he, rfl⟩ := Option.map_eq_some_iff.mp h
    exact .cons h1 (dataOf_rps he h2)
  | .hd i :: r, ds, _, h, _ => by cases h
theorem dataOf_len : ∀ {as : List MV} {ds : List D}, dataOf as = some ds → ds.length = as.length
  | [], ds, h => by cases h; rfl
  | .da d :: r, ds, h => by
    unfold dataOf at h
    obtain ⟨es, he, rfl⟩ := Option.map_eq_some_iff.mp h
    rw [List.length_cons, List.length_cons, dataOf_len he]
  | .hd i :: r, ds, h => by cases h
@[simp] theorem dataOf_map (ds : List D) : dataOf (ds.map .da) = some ds := by
  induction ds with
  | nil => rfl
  | cons d ds ih => rw [List.map_cons]; unfold dataOf; rw [ih]; rfl
theorem look_mv {F : Hp} {θ : List Addr} {f : Str} : ∀ {fs : List (Str × V)} {ms : List MV} {m : MV}, RvMs K mg F θ (fs.map (·.2)) ms → ((fs.map (·.1)).zip ms).lookup f = some m → ∃ v, fs.lookup f = some v ∧ RvM K mg F θ v m
  | [], [], d, _, h => by cases h
  | (g, x) :: fs, d0 :: ds, d, .cons r rs, h => by
    simp only [List.map_cons, List.zip_cons_cons, List.lookup_cons] at h ⊢
    by_cases e : (f == g) = true
    · simp only [e] at h ⊢
      cases h
      exact ⟨x, rfl, r⟩
    · have e : (f == g) = false := by simpa using e
      simp only [e] at h ⊢
      exact look_mv rs h
  | [], d0 :: ds, d, r, h => by cases r
/-- a handle's list -/
theorem HeapM.lstAt (hp : HeapM K mg F H θ μ) {i : Nat} {ms : List MV} (hc : μ[i]? = some (.lst ms)) {v : V} (rv : RvM K mg F θ v (.hd i)) : ∃ a xs, v = .ref a ∧ θ[i]? = some a ∧ H a = some (.lst xs) ∧ RvMs K mg F θ xs ms := by
  obtain ⟨a, ha, rfl⟩ := rv
  obtain ⟨b, o, h1, h2, h3, h4⟩ := hp.cell i _ hc
  rw [ha] at h1
  cases h1
  cases h4 with
  | lst rr => exact ⟨a, _, rfl, ha, h3, rr⟩
theorem HeapM.insAt (hp : HeapM K mg F H θ μ) {i : Nat} {c : Str} {ns : List Str} {ms : List MV} (hc : μ[i]? = some (.ins c ns ms)) {v : V} (rv : RvM K mg F θ v (.hd i)) : ∃ a C dx fs, v = .ref a ∧ θ[i]? = some a ∧ H a = some (.ins C dx fs) ∧ mg c = some (.ref C) ∧ ns = fs.map (·.1) ∧ RvMs K mg F θ (fs.map (·.2)) ms := by
  obtain ⟨a, ha, rfl⟩ := rv
  obtain ⟨b, o, h1, h2, h3, h4⟩ := hp.cell i _ hc
  rw [ha] at h1
  cases h1
  cases h4 with
  | ins hm rr => exact ⟨a, _, _, _, rfl, ha, h3, hm, rfl, rr⟩
end
section
variable {X : Cx} {E : XK} {a b c e o : Expr} {es : List Expr} {f g : EM} {fs : MEnv → Sto → T (List MV)} {t u : MEnv → Sto → T Bool} {pos : Pos}
theorem pm_F {f : DL.Env → R D} (he : PX X E e f) : PM X E e (xF f) := pe_weak he fun σ H Q ⟨F, θ, ρ, μ, hp, en, fin⟩ => ⟨H, snE μ ρ, Same.refl H, en.snap hp, by
  unfold xF at fin
  cases hf : f (snE μ ρ) with
  | bad => rw [hf] at fin; exact fin
  | err c => rw [hf] at fin; exact fun C H2 e m => fin C F H2 θ (StpM.ofSame θ e) (hp.grow e) m
  | ok d =>
    rw [hf] at fin
    intro v F2 H2 s rp
    simp only [up_ok] at fin
    by_cases hd : flatD d = true
    · simp only [hd, if_true] at fin
      exact fin v F H2 θ (StpM.ofSame θ s.h) (hp.grow s.h) (rp.flatAny hd)
    · simp only [hd] at fin
      exact fin.elim⟩
theorem pm_H {f : DL.Env → R D} (he : PX X E e f) : PM X E e (xH f) := pe_weak he fun σ H Q ⟨F, θ, ρ, μ, hp, en, fin⟩ => ⟨F, hdM ρ, hp.fh, en.fz, FinG.toFin hp fin⟩
theorem pm_N {f : DL.Env → R (List D)} (he : PN X E e f) : PM X E e (xN f) := pe_weak he fun σ H Q ⟨F, θ, ρ, μ, hp, en, fin⟩ => ⟨H, snE μ ρ, Same.refl H, en.snap hp, by
  unfold xN at fin
  cases hf : f (snE μ ρ) with
  | bad => rw [hf] at fin; exact fin
  | err c => rw [hf] at fin; exact fun C H2 e m => fin C F H2 θ (StpM.ofSame θ e) (hp.grow e) m
  | ok ds =>
    rw [hf] at fin
    intro p vs F2 H2 s h1 h2 h3 h4
    simp only [up_ok] at fin
    by_cases hd : ds.all flatD = true
    · simp only [hd, if_true] at fin
      refine fin (.ref p) F H2 (θ ++ [p]) (StpM.snoc s.h h1) ((hp.grow s.h).snoc (hp.notIn h1) (hp.fh.free h1) h3 (.lst (.ofRps (h4.flatAny hd)))) ⟨p, ?_, rfl⟩
      rw [← hp.len, List.getElem?_append_right (Nat.le_refl _), Nat.sub_self]
      rfl
    · simp only [hd] at fin
      exact fin.elim⟩
theorem pm_NH {f : DL.Env → R (List D)} (he : PN X E e f) : PM X E e (xNH f) := pe_weak he fun σ H Q ⟨F, θ, ρ, μ, hp, en, fin⟩ => ⟨F, hdM ρ, hp.fh, en.fz, by
  unfold xNH at fin
  cases hf : f (hdM ρ) with
  | bad => rw [hf] at fin; exact fin
  | err c => rw [hf] at fin; exact fun C H2 e m => fin C F H2 θ (StpM.ofSame θ e) (hp.grow e) m
  | ok ds =>
    rw [hf] at fin
    intro p vs F2 H2 s h1 h2 h3 h4
    simp only [up_ok] at fin
    refine fin (.ref p) F2 H2 (θ ++ [p]) (StpM.snocS s h1) ((hp.step s).snoc (hp.notIn h1) h2 h3 (.lst (.ofRps h4))) ⟨p, ?_, rfl⟩
    rw [← hp.len, List.getElem?_append_right (Nat.le_refl _), Nat.sub_self]
    rfl⟩
theorem pm_FN {f : DL.Env → R (List D)} (he : PN X E e f) : PM X E e (xFN f) := pe_weak he fun σ H Q ⟨F, θ, ρ, μ, hp, en, fin⟩ => ⟨H, snE μ ρ, Same.refl H, en.snap hp, by
  unfold xFN at fin
  cases hf : f (snE μ ρ) with
  | bad => rw [hf] at fin; exact fin
  | err c => rw [hf] at fin; exact fun C H2 e m => fin C F H2 θ (StpM.ofSame θ e) (hp.grow e) m
  | ok ds =>
    rw [hf] at fin
    intro p vs F2 H2 s h1 h2 h3 h4
    simp only [up_ok] at fin
    by_cases hd : ds.all flatD = true
    · simp only [hd, if_true] at fin
      exact fin (.ref p) (upd F p (.lst vs)) H2 θ (StpM.freeze s.h (hp.fh.free h1) h1) ((hp.grow s.h).freeze (hp.notIn h1) (hp.fh.free h1) h3) (.lst upd_same (h4.flatAny hd))
    · simp only [hd] at fin
      exact fin.elim⟩
theorem pm_V (i : Nat) {x : Str} {pos : Pos} (hN : X.N[i]? = some x := by rfl) (hv : Vis X.env.scope x := by first | exact Or.inl rfl | exact Or.inr (Or.inl rfl) | exact Or.inr (Or.inr rfl)) (hd : (x == ("__debug__" : Str)) = false := by decide)
    (hcd : (x == ("__classdict__" : Str)) = false := by decide) : PM X E (.Name x pos) (xV i) := pe_weak (pe_var hN hv hd hcd) fun σ H Q ⟨F, θ, ρ, μ, hp, en, fin⟩ => by
  unfold xV at fin
  split at fin
  · rename_i m hm
    obtain ⟨v, h1, h2⟩ := en.var i m hm
    exact ⟨v, h1, fin v F H θ (StpM.refl F H θ) hp h2⟩
  · exact fin.elim
theorem pmt_F {t : DL.Env → R Bool} (he : PXT X E e t) : PMT X E e (bF2 t) := pt_weak he fun σ H Q ⟨F, θ, ρ, μ, hp, en, fin⟩ => ⟨H, snE μ ρ, Same.refl H, en.snap hp, by
  unfold bF2 at fin
  cases hf : t (snE μ ρ) with
  | bad => rw [hf] at fin; exact fin
  | err c => rw [hf] at fin; exact fun C H2 e m => fin C F H2 θ (StpM.ofSame θ e) (hp.grow e) m
  | ok b => rw [hf] at fin; exact fun F2 H2 s => fin b F H2 θ (StpM.ofSame θ s.h) (hp.grow s.h) rfl⟩
theorem pms_nil : PMs X E [] yNil := pa_weak pa_nil fun σ H Q ⟨F, θ, ρ, μ, hp, en, fin⟩ => fin [] F H θ (StpM.refl F H θ) hp .nil
theorem pms_cons (ha : PM X E e f) (hr : PMs X E es fs) (hs : starEach (e :: es) X.env = (false, eval e X.env) :: starEach es X.env := by rfl) : PMs X E (e :: es) (yCons f fs) := pa_weak (pa_cons ha hr hs) fun σ H Q ⟨F, θ, ρ, μ, hp, en, fin⟩ =>
  tGM_step hp en fin fun v m μ1 F1 H1 θ1 s1 hp1 en1 r1 fin1 => tGM_step hp1 en1 fin1 fun vs ms μ2 F2 H2 θ2 s2 hp2 en2 r2 fin2 => fin2 _ F2 H2 θ2 (StpM.refl F2 H2 θ2) hp2 (.cons (r1.mono s2.f s2.p) r2)
theorem opM_run {r : R2} {o : D → D → R D} (od : OpD X E r o) {F H : Hp} {θ : List Addr} {μ : Sto} {v w : V} {a b : MV} {Q : VK} (hp : HeapM X.K X.mg F H θ μ) (r1 : RvM X.K X.mg F θ v a) (r2 : RvM X.K X.mg F θ w b) (fin : FinG X.K X.mg E (RvM X.K X.mg) F H θ Q (opM o a b μ)) : r v w H Q := by
  cases a with
  | hd i => exact fin.elim
  | da x =>
    cases b with
    | hd i => exact fin.elim
    | da y => exact od F H v w x y Q hp.fh r1 r2 (FinG.toFin hp fin)
theorem tM_op {r : R2} {o : D → D → R D} (od : OpD X E r o) (σ : L2.St) (H : Hp) (Q : VK) (h : tM X.K X.mg E (xOp o f g) σ H Q) : tOp r (tM X.K X.mg E f) (tM X.K X.mg E g) σ H Q := by
  obtain ⟨F, θ, ρ, μ, hp, en, fin⟩ := h
  exact tGM_step hp en fin fun v m μ1 F1 H1 θ1 s1 hp1 en1 r1 fin1 => tGM_step hp1 en1 fin1 fun w n μ2 F2 H2 θ2 s2 hp2 en2 r2 fin2 => opM_run od hp2 (r1.mono s2.f s2.p) r2 fin2
theorem pm_bin {op : Operator} {r : R2} {o : D → D → R D} (ho : OpR X (binaryOp op) r) (od : OpD X E r o) (ha : PM X E a f) (hb : PM X E b g) : PM X E (.BinOp a op b pos) (xOp o f g) := pe_weak (pe_op ho ha hb) fun σ H Q h => tM_op od σ H Q h
theorem pm_cmp {op : CmpOp} {r : R2} {o : D → D → R D} (ho : OpR X (compareOp op) r) (od : OpD X E r o) (ha : PM X E a f) (hb : PM X E b g) (hm : behindInMarks op b = false) : PM X E (.Compare a [op] [b] pos) (xOp o f g) := pe_weak (pe_cmpR ho ha hb hm) fun σ H Q h => tM_op od σ H Q h
theorem tM_test (σ : L2.St) (H : Hp) (Q : Bool → Hp → Prop) (h : tMT X.K X.mg E (bM f) σ H Q) : tM X.K X.mg E f σ H (fun x H' => ∃ k, x = .bl k ∧ Q k H') := by
  obtain ⟨F, θ, ρ, μ, hp, en, fin⟩ := h
  refine tGM_step hp en fin fun v m μ1 F1 H1 θ1 s1 hp1 en1 r1 fin1 => ?_
  unfold asBM at fin1
  split at fin1
  · cases r1
    exact ⟨_, rfl, fin1 _ F1 H1 θ1 (StpM.refl F1 H1 θ1) hp1 rfl⟩
  · exact fin1.elim
theorem pmt_x (h : PM X E e f) (he : ∀ whole, isTrue e X.env whole = (do let v ← whole; standAt e.pos; holding [v] (truthy v)) := by intro _; rfl) : PMT X E e (bM f) := pt_weak (pt_val h he) fun σ H Q h => tM_test σ H Q h
theorem pmt_cmp {op : CmpOp} {r : R2} {o : D → D → R D} (ho : OpR X (compareOp op) r) (od : OpD X E r o) (ha : PM X E a f) (hb : PM X E b g) (hm : behindInMarks op b = false) : PMT X E (.Compare a [op] [b] pos) (bM (xOp o f g)) :=
  pt_weak (pt_cmpR ho ha hb hm) fun σ H Q h => tM_op od σ H _ (tM_test σ H Q h)
theorem pmt_not (ha : PMT X E a t) : PMT X E (.UnaryOp .Not a pos) (bNot2 t) := pt_weak (pt_not ha) fun σ H Q ⟨F, θ, ρ, μ, hp, en, fin⟩ =>
  tGM_step hp en fin fun b k μ1 F1 H1 θ1 s1 hp1 en1 r1 fin1 => by subst r1; exact fin1 _ F1 H1 θ1 (StpM.refl F1 H1 θ1) hp1 rfl
theorem pmw_and1 (ha : PMT X E a t) : PMW X E (.BoolOp .And [a] pos) t := pw_and1 ha
theorem pmw_or1 (ha : PMT X E a t) : PMW X E (.BoolOp .Or [a] pos) t := pw_or1 ha
theorem pmw_and {rest : List Expr} (ha : PMT X E a t) (hb : PMW X E (.BoolOp .And (b :: rest) pos) u) : PMW X E (.BoolOp .And (a :: b :: rest) pos) (bAnd2 t u) := pw_weak (pw_and ha hb) fun σ H Q ⟨F, θ, ρ, μ, hp, en, fin⟩ =>
  tGM_step hp en fin fun b k μ1 F1 H1 θ1 s1 hp1 en1 r1 fin1 => by
    subst r1
    cases b with
    | true => rw [if_pos rfl]; exact ⟨F1, θ1, ρ, μ1, hp1, en1, fin1⟩
    | false => exact fin1 _ F1 H1 θ1 (StpM.refl F1 H1 θ1) hp1 rfl
theorem pmw_or {rest : List Expr} (ha : PMT X E a t) (hb : PMW X E (.BoolOp .Or (b :: rest) pos) u) : PMW X E (.BoolOp .Or (a :: b :: rest) pos) (bOr2 t u) := pw_weak (pw_or ha hb) fun σ H Q ⟨F, θ, ρ, μ, hp, en, fin⟩ =>
  tGM_step hp en fin fun b k μ1 F1 H1 θ1 s1 hp1 en1 r1 fin1 => by
    subst r1
    cases b with
    | true => exact fin1 _ F1 H1 θ1 (StpM.refl F1 H1 θ1) hp1 rfl
    | false => exact ⟨F1, θ1, ρ, μ1, hp1, en1, fin1⟩
theorem asBM_run {F H : Hp} {θ : List Addr} {μ : Sto} {α β : Type} {Rl : Hp → List Addr → β → α → Prop} {Q : β → Hp → Prop} {v : V} {m : MV} {g : Bool → Sto → T α} (rv : RvM X.K X.mg F θ v m) (fin : FinG X.K X.mg E Rl F H θ Q ((asBM m μ).bind g)) : ∃ k, v = .bl k ∧ FinG X.K X.mg E Rl F H θ Q (g k μ) := by
  unfold asBM at fin
  split at fin
  · cases rv
    exact ⟨_, rfl, fin⟩
  · exact fin.elim
theorem pm_one {op} (h : PM X E a f) : PM X E (.BoolOp op [a] pos) f := pe_one h
theorem pm_and {rest : List Expr} (ha : PM X E a f) (hb : PM X E (.BoolOp .And (b :: rest) pos) g) : PM X E (.BoolOp .And (a :: b :: rest) pos) (xAnd f g) := pe_weak (pe_and ha hb) fun σ H Q ⟨F, θ, ρ, μ, hp, en, fin⟩ =>
  tGM_step hp en fin fun v m μ1 F1 H1 θ1 s1 hp1 en1 r1 fin1 => by
    obtain ⟨k, rfl, fin2⟩ := asBM_run r1 fin1
    refine ⟨k, rfl, ?_⟩
    cases k with
    | true => rw [if_pos rfl]; exact ⟨F1, θ1, ρ, μ1, hp1, en1, fin2⟩
    | false => exact fin2 _ F1 H1 θ1 (StpM.refl F1 H1 θ1) hp1 (.bl false)
theorem pm_or {rest : List Expr} (ha : PM X E a f) (hb : PM X E (.BoolOp .Or (b :: rest) pos) g) : PM X E (.BoolOp .Or (a :: b :: rest) pos) (xOr f g) := pe_weak (pe_or ha hb) fun σ H Q ⟨F, θ, ρ, μ, hp, en, fin⟩ =>
  tGM_step hp en fin fun v m μ1 F1 H1 θ1 s1 hp1 en1 r1 fin1 => by
    obtain ⟨k, rfl, fin2⟩ := asBM_run r1 fin1
    refine ⟨k, rfl, ?_⟩
    cases k with
    | true => exact fin2 _ F1 H1 θ1 (StpM.refl F1 H1 θ1) hp1 (.bl true)
    | false => exact ⟨F1, θ1, ρ, μ1, hp1, en1, fin2⟩
theorem pm_not (ha : PM X E a f) : PM X E (.UnaryOp .Not a pos) (xNot f) := pe_weak (pe_not ha) fun σ H Q ⟨F, θ, ρ, μ, hp, en, fin⟩ =>
  tGM_step hp en fin fun v m μ1 F1 H1 θ1 s1 hp1 en1 r1 fin1 => by
    obtain ⟨k, rfl, fin2⟩ := asBM_run r1 fin1
    exact ⟨k, rfl, fin2 _ F1 H1 θ1 (StpM.refl F1 H1 θ1) hp1 (.bl _)⟩
theorem pm_if (hc : PMT X E c t) (ha : PM X E a f) (hb : PM X E b g) : PM X E (.IfExp c a b pos) (xIf t f g) := pe_weak (pe_ifExp hc ha hb) fun σ H Q ⟨F, θ, ρ, μ, hp, en, fin⟩ =>
  tGM_step hp en fin fun b k μ1 F1 H1 θ1 s1 hp1 en1 r1 fin1 => by
    subst r1
    cases b with
    | true => rw [if_pos rfl]; exact ⟨F1, θ1, ρ, μ1, hp1, en1, fin1⟩
    | false => exact ⟨F1, θ1, ρ, μ1, hp1, en1, fin1⟩
theorem pm_tup {x1} (h : PMs X E es fs) : PM X E (.Tuple es x1 pos) (xTup fs) := pe_weak (pe_tup h) fun σ H Q ⟨F, θ, ρ, μ, hp, en, fin⟩ =>
  tGM_step hp en fin fun vs ms μ1 F1 H1 θ1 s1 hp1 en1 r1 fin1 => by
    cases hd : dataOf ms with
    | none => rw [hd] at fin1; exact fin1.elim
    | some ds =>
      rw [hd] at fin1
      simp only at fin1
      by_cases hl : ds.length ≤ 100000
      · rw [if_pos hl] at fin1
        refine ⟨by rw [r1.length, ← dataOf_len hd]; exact sz hl, fun p hpn => ?_⟩
        exact fin1 _ _ _ θ1 (StpM.freeze (same_upd hpn) (hp1.fh.free hpn) hpn) ((hp1.grow (same_upd hpn)).freeze (hp1.notIn hpn) (hp1.fh.free hpn) upd_same) (.tup upd_same ((dataOf_rps hd r1).mono (same_upd (hp1.fh.free hpn))))
      · rw [if_neg hl] at fin1; exact fin1.elim
theorem pm_lst (h : PMs X E es fs) : PM X E (.List es pos) (xLst fs) := pe_weak (pe_lst h) fun σ H Q ⟨F, θ, ρ, μ, hp, en, fin⟩ =>
  tGM_step hp en fin fun vs ms μ1 F1 H1 θ1 s1 hp1 en1 r1 fin1 => by
    by_cases hl : ms.length ≤ 100000
    · rw [if_pos hl] at fin1
      refine ⟨by rw [r1.length]; exact sz hl, fun p hpn => ?_⟩
      refine fin1 (.ref p) F1 _ (θ1 ++ [p]) (StpM.snoc (same_upd hpn) hpn) ((hp1.grow (same_upd hpn)).snoc (hp1.notIn hpn) (hp1.fh.free hpn) upd_same (.lst (r1.mono (Same.refl F1) ⟨[p], rfl⟩))) ⟨p, ?_, rfl⟩
      rw [← hp1.len, List.getElem?_append_right (Nat.le_refl _), Nat.sub_self]
      rfl
    · rw [if_neg hl] at fin1; exact fin1.elim
theorem pm_lstD (h : PMs X E es fs) : PM X E (.List es pos) (xLstD fs) := pe_weak (pe_lst h) fun σ H Q ⟨F, θ, ρ, μ, hp, en, fin⟩ =>
  tGM_step hp en fin fun vs ms μ1 F1 H1 θ1 s1 hp1 en1 r1 fin1 => by
    cases hd : dataOf ms with
    | none => rw [hd] at fin1; exact fin1.elim
    | some ds =>
      rw [hd] at fin1
      simp only at fin1
      by_cases hl : ds.length ≤ 100000
      · rw [if_pos hl] at fin1
        refine ⟨by rw [r1.length, ← dataOf_len hd]; exact sz hl, fun p hpn => ?_⟩
        exact fin1 _ _ _ θ1 (StpM.freeze (same_upd hpn) (hp1.fh.free hpn) hpn) ((hp1.grow (same_upd hpn)).freeze (hp1.notIn hpn) (hp1.fh.free hpn) upd_same) (.lst upd_same ((dataOf_rps hd r1).mono (same_upd (hp1.fh.free hpn))))
      · rw [if_neg hl] at fin1; exact fin1.elim
/-- one of two readings -/
theorem pm_alt (h1 : PM X E e f) (h2 : PM X E e g) : PM X E e (xAlt f g) := pe_weak (DL.pe_or h1 h2) fun σ H Q ⟨F, θ, ρ, μ, hp, en, fin⟩ => by
  unfold xAlt at fin
  cases hf : f ρ μ with
  | bad => rw [hf] at fin; exact .inr ⟨F, θ, ρ, μ, hp, en, fin⟩
  | ok d μ1 => rw [hf] at fin; exact .inl ⟨F, θ, ρ, μ, hp, en, by rw [hf]; exact fin⟩
  | err c μ1 => rw [hf] at fin; exact .inl ⟨F, θ, ρ, μ, hp, en, by rw [hf]; exact fin⟩
theorem pm_fld {fl : Str} {cs : List Str} (hF : ∀ c ∈ cs, FldAt X.K X.mg c fl) (he : PM X E e f) (hb : attributeBase e fl X.env (eval e X.env) = eval e X.env := by rfl) : PM X E (.Attribute e fl pos) (xFld cs fl f) :=
  pe_weak (pe_fld he hb) fun σ H Q ⟨F, θ, ρ, μ, hp, en, fin⟩ => tGM_step hp en fin fun v m μ1 F1 H1 θ1 s1 hp1 en1 r1 fin1 => by
    cases m with
    | hd i =>
      simp only [fldM] at fin1
      split at fin1
      · rename_i c ns ms hc
        obtain ⟨a, C, dx, fs, rfl, ha, hH, hm, rfl, rr⟩ := hp1.insAt hc r1
        by_cases hcs : c ∈ cs
        · rw [if_pos hcs] at fin1
          obtain ⟨C', hm', cl, na⟩ := hF c hcs
          rw [hm] at hm'
          cases hm'
          cases hl : ((fs.map (·.1)).zip ms).lookup fl with
          | none => rw [hl] at fin1; exact fin1.elim
          | some m =>
            rw [hl] at fin1
            obtain ⟨u, hu, ru⟩ := look_mv rr hl
            exact ⟨a, C, dx, fs, u, rfl, hH, cl, na, hu, fin1 _ F1 H1 θ1 (StpM.refl F1 H1 θ1) hp1 ru⟩
        · rw [if_neg hcs] at fin1; exact fin1.elim
      · exact fin1.elim
    | da d =>
      have fin2 := FinG.toFin hp1 fin1
      have r1 : Rp X.K X.mg F1 v d := r1
      cases r1 with
      | @obj a C dx fs c ds hm hF1 rr =>
        have fin2 : Fin X.K X.mg E F1 H1 Q (if c ∈ cs then (match ((fs.map (·.1)).zip ds).lookup fl with | some d => .ok d | none => .bad) else .bad) := fin2
        by_cases hc : c ∈ cs
        · rw [if_pos hc] at fin2
          obtain ⟨C', hm', cl, na⟩ := hF c hc
          rw [hm] at hm'
          cases hm'
          cases hl : ((fs.map (·.1)).zip ds).lookup fl with
          | none => rw [hl] at fin2; exact fin2.elim
          | some d =>
            rw [hl] at fin2
            obtain ⟨u, hu, ru⟩ := fld_look rr hl
            exact ⟨a, C, dx, fs, u, rfl, hp1.fh _ _ hF1, cl, na, hu, fin2 _ F1 H1 (Stp.refl hp1.fh) ru⟩
        · rw [if_neg hc] at fin2; exact fin2.elim
      | _ => exact fin2.elim
/-! methods of lists -/
section
variable {apos cpos : Pos}
theorem pm_app (ho : PM X E o f) (he : PM X E e g) (hbase : attributeBase o "append" X.env (eval o X.env) = eval o X.env := by rfl)
    (hfew : ((backTo cpos (starEach [e] X.env)).all (fun x => !x.1) && (backToKw cpos (keywordEach [] X.env)).all (fun x => x.1.isSome) && decide ([e].length + ([] : List Keyword).length + (if ([] : List Keyword).isEmpty then 0 else 1) < 30)) = true := by rfl)
    (hline : (apos.endLine == cpos.line) = true := by rfl) (hs : starEach [e] X.env = (false, eval e X.env) :: starEach [] X.env := by rfl) (hplain : (backTo cpos (starEach [] X.env)).any (·.1) = false := by rfl) :
    PM X E (.Call (.Attribute o "append" apos) [e] [] cpos) (xApp f g) :=
  pe_weak (pe_bm PySem.F.plainAttrs_list PySem.F.slot_list_append PySem.F.type_list_append mt_append ho (pa_cons he pa_nil hs) hbase hfew hline hs hplain) fun σ H Q ⟨F, θ, ρ, μ, hp, en, fin⟩ => tGM_step hp en fin fun v m μ1 F1 H1 θ1 s1 hp1 en1 r1 fin1 => by
    unfold isLst at fin1
    split at fin1
    · rename_i i
      split at fin1
      · rename_i ms hc
        obtain ⟨a, xs, rfl, ha, hH, rr⟩ := hp1.lstAt hc r1
        refine ⟨.inl ⟨rfl, xs, SqL.of hH⟩, ?_⟩
        refine tGM_step hp1 en1 fin1 fun w n μ2 F2 H2 θ2 s2 hp2 en2 r2 fin2 => ?_
        unfold appM at fin2
        simp only at fin2
        split at fin2
        · rename_i ms2 hc2
          obtain ⟨a2, xs2, e2, ha2, hH2, rr2⟩ := hp2.lstAt hc2 (r1.mono s2.f s2.p)
          cases e2
          by_cases hl : ms2.length < 100000
          · rw [if_pos hl] at fin2
            exact ⟨a, xs2, w, rfl, rfl, hH2, by rw [rr2.length]; exact Nat.lt_of_lt_of_le hl (by decide), fin2 .non F2 _ θ2 (StpM.write (List.mem_of_getElem? ha2)) (hp2.write ha2 (.lst (rr2.append (.cons r2 .nil)))) .non⟩
          · rw [if_neg hl] at fin2; exact fin2.elim
        · exact fin2.elim
      · exact fin1.elim
    · exact fin1.elim
theorem pm_pop (ho : PM X E o f) (hbase : attributeBase o "pop" X.env (eval o X.env) = eval o X.env := by rfl)
    (hline : (apos.endLine == cpos.line) = true := by rfl) :
    PM X E (.Call (.Attribute o "pop" apos) [] [] cpos) (xPop f) :=
  pe_weak (pe_bm0 PySem.F.plainAttrs_list PySem.F.slot_list_pop PySem.F.type_list_pop mt_pop ho hbase hline) fun σ H Q ⟨F, θ, ρ, μ, hp, en, fin⟩ => tGM_step hp en fin fun v m μ1 F1 H1 θ1 s1 hp1 en1 r1 fin1 => by
    unfold popM at fin1
    split at fin1
    · rename_i i
      split at fin1
      · rename_i ms hc
        obtain ⟨a, xs, rfl, ha, hH, rr⟩ := hp1.lstAt hc r1
        split at fin1
        · rename_i m hm
          obtain ⟨w, hw, rw'⟩ := rr.get hm
          refine ⟨.inl ⟨rfl, xs, SqL.of hH⟩, ?_⟩
          refine ⟨a, xs, w, rfl, rfl, hH, by rw [rr.length]; exact hw, fin1 w F1 _ θ1 (StpM.write (List.mem_of_getElem? ha)) (hp1.write ha (.lst ?_)) rw'⟩
          rw [List.dropLast_eq_take, List.dropLast_eq_take, rr.length]
          exact rr.take _
        · exact fin1.elim
      · exact fin1.elim
    · exact fin1.elim
theorem pm_rev (ho : PM X E o f) (hbase : attributeBase o "reverse" X.env (eval o X.env) = eval o X.env := by rfl)
    (hline : (apos.endLine == cpos.line) = true := by rfl) :
    PM X E (.Call (.Attribute o "reverse" apos) [] [] cpos) (xRev f) :=
  pe_weak (pe_bm0 PySem.F.plainAttrs_list PySem.F.slot_list_reverse PySem.F.type_list_reverse mt_reverse ho hbase hline) fun σ H Q ⟨F, θ, ρ, μ, hp, en, fin⟩ => tGM_step hp en fin fun v m μ1 F1 H1 θ1 s1 hp1 en1 r1 fin1 => by
    unfold revM at fin1
    split at fin1
    · rename_i i
      split at fin1
      · rename_i ms hc
        obtain ⟨a, xs, rfl, ha, hH, rr⟩ := hp1.lstAt hc r1
        exact ⟨.inl ⟨rfl, xs, SqL.of hH⟩, a, xs, rfl, rfl, hH, fin1 .non F1 _ θ1 (StpM.write (List.mem_of_getElem? ha)) (hp1.write ha (.lst rr.reverse)) .non⟩
      · exact fin1.elim
    · exact fin1.elim
end
end
end ML
/-! The store layer, 3: statements; defs, methods, makers. -/
namespace ML
open PySem L2 DL
inductive OutM where
  | nx (ρ : MEnv)
  | bk (ρ : MEnv)
  | ct (ρ : MEnv)
  | rt (m : MV)
abbrev SM := MEnv → Sto → T OutM
structure RelM (K : PySem.W.Frag) (mg : Str → Option Value) (He Fe : Hp) (θe : List Addr) (F : Hp) (θ : List Addr) (ρ : MEnv) (μ : Sto) (σ : L2.St) (H : Hp) : Prop where
  hp : HeapM K mg F H θ μ
  en : EnvM K mg F θ σ ρ
  st : StpM Fe He θe F H θ
def FinS2 (K : PySem.W.Frag) (mg : Str → Option Value) (E : XK) (He Fe : Hp) (θe : List Addr) (Dn : Ends) : T OutM → Prop
  | .ok (.nx ρ) μ => ∀ F θ σ H, RelM K mg He Fe θe F θ ρ μ σ H → Dn.nx σ H
  | .ok (.bk ρ) μ => ∀ F θ σ H, RelM K mg He Fe θe F θ ρ μ σ H → Dn.bk σ H
  | .ok (.ct ρ) μ => ∀ F θ σ H, RelM K mg He Fe θe F θ ρ μ σ H → Dn.ct σ H
  | .ok (.rt m) μ => ∀ v F H θ, StpM Fe He θe F H θ → HeapM K mg F H θ μ → RvM K mg F θ v m → Dn.rt v H
  | .err c μ => ∀ C F H θ, StpM Fe He θe F H θ → HeapM K mg F H θ μ → mg c = some (.ref C) → E (.ref C) none H
  | .bad => False
def tS2 (K : PySem.W.Frag) (mg : Str → Option Value) (E : XK) (S : SM) : TS := fun Dn σ H => ∃ He Fe θe F θ ρ μ, RelM K mg He Fe θe F θ ρ μ σ H ∧ FinS2 K mg E He Fe θe Dn (S ρ μ)
abbrev PMS (X : Cx) (E : XK) (st : Stmt) (S : SM) : Prop := PS X st (tS2 X.K X.mg E S)
abbrev PMSs (X : Cx) (E : XK) (st : List Stmt) (S : SM) : Prop := PSs X st (tS2 X.K X.mg E S)
/-! meanings -/
def mNext : SM := fun ρ μ => .ok (.nx ρ) μ
def thenM (S : SM) (o : OutM) (μ : Sto) : T OutM := match o with
  | .nx ρ => S ρ μ
  | o => .ok o μ
def mSeq (S U : SM) : SM := fun ρ μ => (S ρ μ).bind (thenM U)
def mIf (t : MEnv → Sto → T Bool) (S U : SM) : SM := fun ρ μ => (t ρ μ).bind fun b μ1 => if b then S ρ μ1 else U ρ μ1
def mAsg (i : Nat) (f : EM) : SM := fun ρ μ => (f ρ μ).bind fun m μ1 => .ok (.nx (ρ.set i (some m))) μ1
def mExpr (f : EM) : SM := fun ρ μ => (f ρ μ).bind fun _ μ1 => .ok (.nx ρ) μ1
def mRet (f : EM) : SM := fun ρ μ => (f ρ μ).bind fun m μ1 => .ok (.rt m) μ1
def mRaise (c : Str) : SM := fun _ μ => .err c μ
def mBreak : SM := fun ρ μ => .ok (.bk ρ) μ
def mCont : SM := fun ρ μ => .ok (.ct ρ) μ
def mAug (i : Nat) (o : D → D → R D) (f : EM) : SM := fun ρ μ => (xOp o (xV i) f ρ μ).bind fun m μ1 => .ok (.nx (ρ.set i (some m))) μ1
def setM (ρ : MEnv) (as : List (Nat × MV)) : MEnv := as.foldl (fun ρ a => ρ.set a.1 (some a.2)) ρ
def mPar (is : List Nat) (fs : MEnv → Sto → T (List MV)) : SM := fun ρ μ => (fs ρ μ).bind fun ms μ1 => if ms.length = is.length ∧ ms.length ≤ 1000 then .ok (.nx (setM ρ (is.zip ms))) μ1 else .bad
def unpM (t : Tg) (ρ : MEnv) (m : MV) (μ : Sto) : T OutM := match m with
  | .da d => match tgB t d with
    | some as => .ok (.nx (setM ρ (as.map fun a => (a.1, .da a.2)))) μ
    | none => .bad
  | .hd _ => .bad
def mUnp (t : Tg) (f : EM) : SM := fun ρ μ => (f ρ μ).bind (unpM t ρ)
def afterM (k : MEnv → Sto → T OutM) (o : OutM) (μ : Sto) : T OutM := match o with
  | .nx ρ' => k ρ' μ
  | .ct ρ' => k ρ' μ
  | .bk ρ' => .ok (.nx ρ') μ
  | .rt m => .ok (.rt m) μ
def forM (t : Tg) (S : SM) : List D → SM
  | [], ρ, μ => .ok (.nx ρ) μ
  | d :: r, ρ, μ => match tgB t d with
    | none => .bad
    | some as => (S (setM ρ (as.map fun a => (a.1, .da a.2))) μ).bind (afterM (forM t S r))
def mFor (it : DL.Env → R (List D)) (t : Tg) (S : SM) : SM := fun ρ μ => up (it (hdM ρ)) μ fun ds => forM t S ds ρ μ
def whileM (t : MEnv → Sto → T Bool) (S : SM) : Nat → SM
  | 0, _, _ => .bad
  | n + 1, ρ, μ => (t ρ μ).bind fun b μ1 => if b then (S ρ μ1).bind (afterM (whileM t S n)) else .ok (.nx ρ) μ1
def putC (fl : Str) (m : MV) : List Str → List MV → List Str × List MV
  | n :: ns, x :: ms => if n = fl then (n :: ns, m :: ms) else (n :: (putC fl m ns ms).1, x :: (putC fl m ns ms).2)
  | _, _ => ([fl], [m])
def putM (cs : List Str) (fl : Str) (m a : MV) (μ : Sto) : T Unit := match a with
  | .hd i => match μ[i]? with
    | some (.ins c ns ms) => if c ∈ cs ∧ ns.length < 1000 then .ok () (μ.set i (.ins c (putC fl m ns ms).1 (putC fl m ns ms).2)) else .bad
    | _ => .bad
  | _ => .bad
/-- o.f = e -/
def mFld (cs : List Str) (fl : Str) (fo f : EM) : SM := fun ρ μ => (f ρ μ).bind fun m μ1 => (fo ρ μ1).bind fun a μ2 => (putM cs fl m a μ2).bind fun _ μ3 => .ok (.nx ρ) μ3
def stoM (m a k : MV) (μ : Sto) : T Unit := match a, k with
  | .hd i, .da (.int z) => match μ[i]? with
    | some (.lst ms) => match ixN ms.length z with
      | some j => .ok () (μ.set i (.lst (ms.set j m)))
      | none => .bad
    | _ => .bad
  | _, _ => .bad
/-- xs[k] = e -/
def mSto (fo fk f : EM) : SM := fun ρ μ => (f ρ μ).bind fun m μ1 => (fo ρ μ1).bind fun a μ2 => (fk ρ μ2).bind fun k μ3 => (stoM m a k μ3).bind fun _ μ4 => .ok (.nx ρ) μ4
section
variable {K : PySem.W.Frag} {mg : Str → Option Value} {E : XK} {He Fe F H : Hp} {θe θ : List Addr} {ρ : MEnv} {μ : Sto} {σ : L2.St} {Dn : Ends}
theorem RelM.eval {α β : Type} {Rl : Hp → List Addr → β → α → Prop} {f : MEnv → Sto → T α} {g : α → Sto → T OutM} {Q : β → Hp → Prop} (r : RelM K mg He Fe θe F θ ρ μ σ H) (fin : FinS2 K mg E He Fe θe Dn ((f ρ μ).bind g))
    (k : ∀ b a μ1 F1 H1 θ1, RelM K mg He Fe θe F1 θ1 ρ μ1 σ H1 → StpM F H θ F1 H1 θ1 → Rl F1 θ1 b a → FinS2 K mg E He Fe θe Dn (g a μ1) → Q b H1) : tGM K mg E Rl f σ H Q := by
  refine ⟨F, θ, ρ, μ, r.hp, r.en, ?_⟩
  cases hf : f ρ μ with
  | ok a μ1 => rw [hf] at fin; exact fun b F1 H1 θ1 s h1 rl => k b a μ1 F1 H1 θ1 ⟨h1, r.en.mono s.f s.p, r.st.trans s⟩ s rl fin
  | err c μ1 => rw [hf] at fin; exact fun C F1 H1 θ1 s h1 m => fin C F1 H1 θ1 (r.st.trans s) h1 m
  | bad => rw [hf] at fin; exact fin
theorem RelM.set {i : Nat} {v : V} {m : MV} (r : RelM K mg He Fe θe F θ ρ μ σ H) (rv : RvM K mg F θ v m) : RelM K mg He Fe θe F θ (ρ.set i (some m)) μ (σ.set i (some v)) H := ⟨r.hp, r.en.set rv, r.st⟩
theorem RelM.setAll : ∀ {ws : List (Nat × V)} {as : List (Nat × D)} {σ : L2.St} {ρ : MEnv}, AsR K mg F ws as → RelM K mg He Fe θe F θ ρ μ σ H → RelM K mg He Fe θe F θ (setM ρ (as.map fun a => (a.1, .da a.2))) μ (setV σ ws) H
  | _, _, _, _, .nil, e => e
  | _, _, σ, ρ, .cons (i := i) (v := v) (d := d) (ws := ws) (as := as) h r, e => RelM.setAll (σ := σ.set i (some v)) (ρ := ρ.set i (some (.da d))) r (e.set (m := .da d) h)
theorem RelM.setMs : ∀ {is : List Nat} {vs : List V} {ms : List MV} {σ : L2.St} {ρ : MEnv}, RvMs K mg F θ vs ms → RelM K mg He Fe θe F θ ρ μ σ H → RelM K mg He Fe θe F θ (setM ρ (is.zip ms)) μ (setV σ (is.zip vs)) H
  | [], _, _, _, _, _, e => by simpa [setM, setV] using e
  | _ :: _, _, _, _, _, .nil, e => by simpa [setM, setV] using e
  | i :: is, _, _, σ, ρ, .cons (v := v) (m := m) h r, e => RelM.setMs (is := is) (σ := σ.set i (some v)) (ρ := ρ.set i (some m)) r (e.set h)
theorem RelM.grow {H2 : Hp} (r : RelM K mg He Fe θe F θ ρ μ σ H) (e : Same H H2) : RelM K mg He Fe θe F θ ρ μ σ H2 := ⟨r.hp.grow e, r.en, r.st.trans (StpM.ofSame θ e)⟩
theorem RelM.step {F2 H2 : Hp} (r : RelM K mg He Fe θe F θ ρ μ σ H) (s : Stp F H F2 H2) : RelM K mg He Fe θe F2 θ ρ μ σ H2 := ⟨r.hp.step s, r.en.mono s.f (Pre.refl θ), r.st.trans (StpM.ofStp θ s)⟩
theorem RelM.write {i : Nat} {a : Addr} {o : HO} {c : Cell} (r : RelM K mg He Fe θe F θ ρ μ σ H) (ha : θ[i]? = some a) (ho : RoM K mg F θ o c) : RelM K mg He Fe θe F θ ρ (μ.set i c) σ (upd H a o) := ⟨r.hp.write ha ho, r.en, r.st.trans (StpM.write (List.mem_of_getElem? ha))⟩
theorem putC_rel {fl : Str} {v : V} {m : MV} (rv : RvM K mg F θ v m) : ∀ {fs : List (Str × V)} {ms : List MV}, RvMs K mg F θ (fs.map (·.2)) ms → (putF fl v fs).map (·.1) = (putC fl m (fs.map (·.1)) ms).1 ∧ RvMs K mg F θ ((putF fl v fs).map (·.2)) (putC fl m (fs.map (·.1)) ms).2
  | [], _, _ => ⟨rfl, .cons rv .nil⟩
  | (g, x) :: fs, _, .cons (m := m') (ms := ms) h r => by
    obtain ⟨h1, h2⟩ := putC_rel rv r
    unfold putF
    simp only [List.map_cons]
    unfold putC
    by_cases e : g = fl
    · rw [if_pos e, if_pos e]
      exact ⟨rfl, .cons rv r⟩
    · rw [if_neg e, if_neg e]
      exact ⟨by rw [List.map_cons, h1], .cons h h2⟩
/-- a loop's turn -/
theorem FinS2.after {k : MEnv → Sto → T OutM} {t : T OutM} {D2 : Ends} (h : FinS2 K mg E He Fe θe Dn (t.bind (afterM k)))
    (hn : ∀ ρ μ, FinS2 K mg E He Fe θe Dn (k ρ μ) → ∀ F θ σ H, RelM K mg He Fe θe F θ ρ μ σ H → D2.nx σ H ∧ D2.ct σ H) (hb : ∀ σ H, Dn.nx σ H → D2.bk σ H) (hr : ∀ v H, Dn.rt v H → D2.rt v H) : FinS2 K mg E He Fe θe D2 t := by
  cases t with
  | bad => exact h
  | err c μ => exact h
  | ok o μ =>
    cases o with
    | nx ρ => exact fun F θ σ H r => (hn ρ μ h F θ σ H r).1
    | ct ρ => exact fun F θ σ H r => (hn ρ μ h F θ σ H r).2
    | bk ρ => exact fun F θ σ H r => hb σ H (h F θ σ H r)
    | rt m => exact fun v F H θ s hp rv => hr v H (h v F H θ s hp rv)
end
section
variable {X : Cx} {E : XK} {st : Stmt} {rest : List Stmt} {S U : SM} {e c o : Expr} {f g : EM} {t : MEnv → Sto → T Bool} {fs : MEnv → Sto → T (List MV)} {pos : Pos}
theorem ms_nil : PMSs X E [] mNext := pss_weak pss_nil fun Dn σ H ⟨He, Fe, θe, F, θ, ρ, μ, r, fin⟩ => fin F θ σ H r
theorem ms_cons (h1 : PMS X E st S) (h2 : PMSs X E rest U) : PMSs X E (st :: rest) (mSeq S U) := pss_weak (pss_cons h1 h2) fun Dn σ H ⟨He, Fe, θe, F, θ, ρ, μ, r, fin⟩ => by
  refine ⟨He, Fe, θe, F, θ, ρ, μ, r, ?_⟩
  unfold mSeq at fin
  cases hs : S ρ μ with
  | bad => rw [hs] at fin; exact fin
  | err c μ1 => rw [hs] at fin; exact fin
  | ok o μ1 =>
    rw [hs] at fin
    cases o with
    | nx ρ' => exact fun F' θ' σ' H' r' => ⟨He, Fe, θe, F', θ', ρ', μ1, r', fin⟩
    | bk ρ' => exact fin
    | ct ρ' => exact fin
    | rt d => exact fin
theorem ms_one (h1 : PMS X E st S) : PMSs X E [st] S := pss_one h1
theorem ms_pass {pos} : PMS X E (.Pass pos) mNext := ps_weak ps_pass fun Dn σ H ⟨He, Fe, θe, F, θ, ρ, μ, r, fin⟩ => fin F θ σ H r
theorem ms_break {pos} : PMS X E (.Break pos) mBreak := ps_weak ps_break fun Dn σ H ⟨He, Fe, θe, F, θ, ρ, μ, r, fin⟩ => fin F θ σ H r
theorem ms_cont {pos} : PMS X E (.Continue pos) mCont := ps_weak ps_continue fun Dn σ H ⟨He, Fe, θe, F, θ, ρ, μ, r, fin⟩ => fin F θ σ H r
theorem ms_expr (he : PM X E e f) (hs : swapsWith e none pos.line X.env = pure false := by rfl) : PMS X E (.Expr e pos) (mExpr f) := ps_weak (ps_expr he hs) fun Dn σ H ⟨He, Fe, θe, F, θ, ρ, μ, r, fin⟩ =>
  r.eval fin fun v m μ1 F1 H1 θ1 r1 s1 rv fin1 => fin1 F1 θ1 σ H1 r1
theorem ms_ret (he : PM X E e f) : PMS X E (.Return (some e) pos) (mRet f) := ps_weak (ps_ret he) fun Dn σ H ⟨He, Fe, θe, F, θ, ρ, μ, r, fin⟩ =>
  r.eval fin fun v m μ1 F1 H1 θ1 r1 s1 rv fin1 => fin1 v F1 H1 θ1 r1.st r1.hp rv
theorem ms_if {a b : List Stmt} (hc : PMT X E c t) (ha : PMSs X E a S) (hb : PMSs X E b U) : PMS X E (.If c a b pos) (mIf t S U) := ps_weak (ps_if hc ha hb) fun Dn σ H ⟨He, Fe, θe, F, θ, ρ, μ, r, fin⟩ =>
  r.eval fin fun b k μ1 F1 H1 θ1 r1 s1 rv fin1 => by
    subst rv
    cases b with
    | true => rw [if_pos rfl]; exact ⟨He, Fe, θe, F1, θ1, ρ, μ1, r1, fin1⟩
    | false => rw [if_neg Bool.false_ne_true]; exact ⟨He, Fe, θe, F1, θ1, ρ, μ1, r1, fin1⟩
theorem tS2_asg {i : Nat} (Dn : Ends) (σ : L2.St) (H : Hp) (h : tS2 X.K X.mg E (mAsg i f) Dn σ H) : tAsg (tM X.K X.mg E f) (gName i) Dn σ H := by
  obtain ⟨He, Fe, θe, F, θ, ρ, μ, r, fin⟩ := h
  exact r.eval fin fun v m μ1 F1 H1 θ1 r1 s1 rv fin1 => fin1 F1 θ1 _ H1 (r1.set rv)
section
variable {i : Nat} {x : Str} {pos' : Pos}
theorem ms_set (hN : X.N.Nodup) (hi : X.N[i]? = some x) (hx : Loc X.env.scope x) (he : PM X E e f) (hs : swapsWith e (some (.Name x pos')) pos.line X.env = pure false := by rfl) (hf : X.fn x = true ∨ X.env.scope.names.lookup x = some .local := by first | exact .inl rfl | exact .inr rfl | assumption) :
    PMS X E (.Assign [.Name x pos'] e pos) (mAsg i f) := ps_weak (ps_set hN hi hx he hs hf) fun Dn σ H h => tS2_asg Dn σ H h
end
/-! y = [.. for ..], by the pure layer's rule -/
section
variable {i : Nat} {y : Str} {py : Pos} {it : Expr} {w : DL.Env → R (List D)} {spos : Pos}
theorem tM_N (σ : L2.St) (H : Hp) (Q : VK) (h : tM X.K X.mg E (xN w) σ H Q) : tN X.K X.mg E w σ H Q := by
  obtain ⟨F, θ, ρ, μ, hp, en, fin⟩ := h
  refine ⟨H, snE μ ρ, Same.refl H, en.snap hp, ?_⟩
  unfold xN at fin
  cases hf : w (snE μ ρ) with
  | bad => rw [hf] at fin; exact fin
  | err c => rw [hf] at fin; exact fun C H2 e m => fin C F H2 θ (StpM.ofSame θ e) (hp.grow e) m
  | ok ds =>
    rw [hf] at fin
    intro p vs F2 H2 s h1 h2 h3 h4
    simp only [up_ok] at fin
    by_cases hd : ds.all flatD = true
    · simp only [hd, if_true] at fin
      refine fin (.ref p) F H2 (θ ++ [p]) (StpM.snoc s.h h1) ((hp.grow s.h).snoc (hp.notIn h1) (hp.fh.free h1) h3 (.lst (.ofRps (h4.flatAny hd)))) ⟨p, ?_, rfl⟩
      rw [← hp.len, List.getElem?_append_right (Nat.le_refl _), Nat.sub_self]
      rfl
    · simp only [hd] at fin
      exact fin.elim
theorem tM_FN (σ : L2.St) (H : Hp) (Q : VK) (h : tM X.K X.mg E (xFN w) σ H Q) : tN X.K X.mg E w σ H Q := by
  obtain ⟨F, θ, ρ, μ, hp, en, fin⟩ := h
  refine ⟨H, snE μ ρ, Same.refl H, en.snap hp, ?_⟩
  unfold xFN at fin
  cases hf : w (snE μ ρ) with
  | bad => rw [hf] at fin; exact fin
  | err c => rw [hf] at fin; exact fun C H2 e m => fin C F H2 θ (StpM.ofSame θ e) (hp.grow e) m
  | ok ds =>
    rw [hf] at fin
    intro p vs F2 H2 s h1 h2 h3 h4
    simp only [up_ok] at fin
    by_cases hd : ds.all flatD = true
    · simp only [hd, if_true] at fin
      exact fin (.ref p) (upd F p (.lst vs)) H2 θ (StpM.freeze s.h (hp.fh.free h1) h1) ((hp.grow s.h).freeze (hp.notIn h1) (hp.fh.free h1) h3) (.lst upd_same (h4.flatAny hd))
    · simp only [hd] at fin
      exact fin.elim
theorem tM_HN (σ : L2.St) (H : Hp) (Q : VK) (h : tM X.K X.mg E (xH (eNew w)) σ H Q) : tN X.K X.mg E w σ H Q := by
  obtain ⟨F, θ, ρ, μ, hp, en, fin⟩ := h
  exact ⟨F, hdM ρ, hp.fh, en.fz, Fin.ofN (FinG.toFin hp fin)⟩
theorem ms_lcN (h : PS X (.Assign [.Name y py] it spos) (tAsg (tN X.K X.mg E w) (gName i))) : PMS X E (.Assign [.Name y py] it spos) (mAsg i (xN w)) := ps_weak h fun Dn σ H h => tM_N σ H _ (tS2_asg Dn σ H h)
theorem ms_lcFN (h : PS X (.Assign [.Name y py] it spos) (tAsg (tN X.K X.mg E w) (gName i))) : PMS X E (.Assign [.Name y py] it spos) (mAsg i (xFN w)) := ps_weak h fun Dn σ H h => tM_FN σ H _ (tS2_asg Dn σ H h)
theorem ms_lcH (h : PS X (.Assign [.Name y py] it spos) (tAsg (tN X.K X.mg E w) (gName i))) : PMS X E (.Assign [.Name y py] it spos) (mAsg i (xH (eNew w))) := ps_weak h fun Dn σ H h => tM_HN σ H _ (tS2_asg Dn σ H h)
end
theorem ms_for {tg iter : Expr} {body : List Stmt} {it : DL.Env → R (List D)} {t : Tg} (hp : PassesOwn (model X.prog X.w) X.A X.env X.xe) (hc : X.calm = true) (hi : PXI X E tg iter it) (hg : PXG X tg t) (hb : PMSs X E body S)
    (hs : ∀ x, foldedSetIterable iter X.env x = pure x := by intro _; rfl) : PMS X E (.For tg iter body [] pos) (mFor it t S) := ps_weak (ps_for hp hc hi hg hb hs) fun Dn σ H ⟨He, Fe, θe, F, θ, ρ, μ, r, fin⟩ => by
  refine ⟨F, hdM ρ, r.hp.fh, r.en.fz, ?_⟩
  unfold mFor at fin
  cases hi : it (hdM ρ) with
  | bad => rw [hi] at fin; exact fin
  | err c => rw [hi] at fin; exact fun C H2 e m => fin C F H2 θ (r.st.trans (StpM.ofSame θ e)) (r.hp.grow e) m
  | ok ds =>
    rw [hi] at fin
    have fin : FinS2 X.K X.mg E He Fe θe Dn (forM t S ds ρ μ) := fin
    intro J F1 H1 s1 go
    have r1 := r.step s1
    refine ⟨fun i m σ' H' => m = ds.length - i ∧ i ≤ ds.length ∧ ∃ F' θ' ρ' μ', Same F1 F' ∧ RelM X.K X.mg He Fe θe F' θ' ρ' μ' σ' H' ∧ FinS2 X.K X.mg E He Fe θe Dn (forM t S (ds.drop i) ρ' μ'), ⟨ds.length, by simp, Nat.zero_le _, F1, θ, ρ, μ, Same.refl F1, r1, fin⟩, ?_⟩
    rintro i m σ' H' ⟨rfl, hi', F', θ', ρ', μ', f1, r', fin'⟩
    obtain ⟨g1, g2⟩ := go i F' H' f1 r'.hp.fh
    by_cases hlt : i < ds.length
    · right
      have hd : ds[i]? = some ds[i] := List.getElem?_eq_getElem hlt
      obtain ⟨hgo1, hyld⟩ := g2 _ hd
      refine ⟨hgo1, fun σ2 H2 => ∃ F' θ' ρ' μ', Same F1 F' ∧ RelM X.K X.mg He Fe θe F' θ' ρ' μ' σ2 H2 ∧ FinS2 X.K X.mg E He Fe θe Dn (forM t S (ds.drop (i + 1)) ρ' μ'), fun σ2 H2 hN => ⟨ds.length - (i + 1), by omega, rfl, hlt, hN⟩, fun x H2 hy => ?_⟩
      obtain ⟨F2, s2, rp⟩ := hyld x H2 hy
      rw [List.drop_eq_getElem_cons hlt] at fin'
      unfold forM at fin'
      cases ha : tgB t ds[i] with
      | none => rw [ha] at fin'; exact fin'.elim
      | some as =>
        rw [ha] at fin'
        refine ⟨F2, ds[i], as, s2.fh, rp, ha, fun ws hw => ?_⟩
        have r2 := (r'.step s2).setAll hw
        refine ⟨H2, F2, θ', F2, θ', _, μ', ⟨r2.hp, r2.en, StpM.refl _ _ _⟩, ?_⟩
        have tr : ∀ {F3 : Hp} {θ3 : List Addr} {H3 : Hp}, StpM F2 H2 θ' F3 H3 θ3 → StpM Fe He θe F3 H3 θ3 := fun s => r2.st.trans s
        simp only at fin'
        cases hs : S (setM ρ' (as.map fun a => (a.1, .da a.2))) μ' with
        | bad => rw [hs] at fin'; exact fin'
        | err c μ2 => rw [hs] at fin'; exact fun C F3 H3 θ3 s3 h3 m => fin' C F3 H3 θ3 (tr s3) h3 m
        | ok o μ2 =>
          rw [hs] at fin'
          cases o with
          | nx ρ2 => exact fun F3 θ3 σ3 H3 r3 => ⟨F3, θ3, ρ2, μ2, f1.trans (s2.f.trans r3.st.f), ⟨r3.hp, r3.en, tr r3.st⟩, fin'⟩
          | ct ρ2 => exact fun F3 θ3 σ3 H3 r3 => ⟨F3, θ3, ρ2, μ2, f1.trans (s2.f.trans r3.st.f), ⟨r3.hp, r3.en, tr r3.st⟩, fin'⟩
          | bk ρ2 => exact fun F3 θ3 σ3 H3 r3 => fin' F3 θ3 σ3 H3 ⟨r3.hp, r3.en, tr r3.st⟩
          | rt m => exact fun v F3 H3 θ3 s3 h3 rv => fin' v F3 H3 θ3 (tr s3) h3 rv
    · left
      have e : i = ds.length := by omega
      subst e
      rw [List.drop_length] at fin'
      exact ⟨g1 (Nat.le_refl _), fin' F' θ' σ' H' r'⟩
theorem ms_while (n : Nat) {body : List Stmt} (hp : PassesOwn (model X.prog X.w) X.A X.env X.xe) (hc : PMT X E c t) (hb : PMSs X E body S) : PMS X E (.While c body [] pos) (whileM t S n) := ps_weak (ps_while hp hc hb) fun Dn σ H ⟨He, Fe, θe, F, θ, ρ, μ, r, fin⟩ => by
  refine ⟨fun m σ' H' => ∃ F' θ' ρ' μ', RelM X.K X.mg He Fe θe F' θ' ρ' μ' σ' H' ∧ FinS2 X.K X.mg E He Fe θe Dn (whileM t S m ρ' μ'), ⟨n, F, θ, ρ, μ, r, fin⟩, ?_⟩
  rintro m σ' H' ⟨F', θ', ρ', μ', r', fin'⟩
  cases m with
  | zero => exact fin'.elim
  | succ m =>
    unfold whileM at fin'
    refine r'.eval fin' fun b k μ1 F1 H1 θ1 r1 s1 rv fin1 => ?_
    subst rv
    cases b with
    | false => exact fin1 F1 θ1 σ' H1 r1
    | true =>
      rw [if_pos rfl]
      rw [if_pos rfl] at fin1
      refine ⟨fun σ2 H2 => ∃ F' θ' ρ' μ', RelM X.K X.mg He Fe θe F' θ' ρ' μ' σ2 H2 ∧ FinS2 X.K X.mg E He Fe θe Dn (whileM t S m ρ' μ'), fun σ2 H2 h => ⟨m, Nat.lt_succ_self m, h⟩, ?_⟩
      refine ⟨He, Fe, θe, F1, θ1, ρ', μ1, r1, ?_⟩
      exact FinS2.after fin1 (fun ρ2 μ2 h F3 θ3 σ3 H3 r3 => ⟨⟨F3, θ3, ρ2, μ2, r3, h⟩, ⟨F3, θ3, ρ2, μ2, r3, h⟩⟩) (fun σ H h => h) (fun v H h => h)
theorem ms_unp {tg : Expr} {t : Tg} (he : PM X E e f) (hg : PXG X tg t) (hs : swapsWithSole [tg] e pos.line X.env = pure false := by rfl) (hw : swappedStores [tg] e X.env = pure none := by rfl) (h1 : (assignEach [tg] X.env).map (·.2) = [assign tg X.env] := by rfl) : PMS X E (.Assign [tg] e pos) (mUnp t f) :=
  ps_weak (ps_asg he hg hs hw h1) fun Dn σ H ⟨He, Fe, θe, F, θ, ρ, μ, r, fin⟩ => r.eval fin fun v m μ1 F1 H1 θ1 r1 s1 rv fin1 => by
    cases m with
    | hd i => exact fin1.elim
    | da d =>
      simp only [unpM] at fin1
      cases ha : tgB t d with
      | none => rw [ha] at fin1; exact fin1.elim
      | some as =>
        rw [ha] at fin1
        exact ⟨F1, d, as, r1.hp.fh, rv, ha, fun ws hw => fin1 F1 θ1 _ H1 (r1.setAll hw)⟩
theorem ms_raise {x m : Str} {j : Nat} {p p2 pos pos' : Pos} {bm : List Value} (G : ExcAt X.K X.mg x bm) (hc : X.calm = true) (tk : Takes X (fun cls d _ H => E cls d H)) {B initId : String} (F : ExcBaseFacts B "ValueError.__new__" initId bm) (hg : Gl X x) (hdb : (x == ("__debug__" : Str)) = false := by decide) :
    PMS X E (.Raise (some (.Call (.Name x p) [.Constant (.str m) j p2] [] pos)) none pos') (mRaise x) := by
  obtain ⟨C, a, b, c, d, e⟩ := G
  exact ps_weak (ps_raise hc tk (pmk_own F b a c (raises_own d e) hg hdb)) fun Dn σ H ⟨He, Fe, θe, F, θ, ρ, μ, r, fin⟩ => fin C F H θ r.st r.hp a
theorem ms_fld {fl : Str} {cs : List Str} {fo : EM} {pos' : Pos} (hF : ∀ c ∈ cs, FldAt X.K X.mg c fl) (ho : PM X E o fo) (hv : PM X E e f) (hs : swapsWith e (some (.Attribute o fl pos')) pos.line X.env = pure false := by rfl) : PMS X E (.Assign [.Attribute o fl pos'] e pos) (mFld cs fl fo f) :=
  ps_weak (ps_fld ho hv hs) fun Dn σ H ⟨He, Fe, θe, F, θ, ρ, μ, r, fin⟩ => r.eval fin fun v m μ1 F1 H1 θ1 r1 s1 rv fin1 => r1.eval fin1 fun w a μ2 F2 H2 θ2 r2 s2 ra fin2 => by
    cases a with
    | da d => exact fin2.elim
    | hd i =>
      simp only [putM] at fin2
      split at fin2
      · rename_i c ns ms hc
        obtain ⟨p, C, dx, fs, rfl, ha, hH, hm, rfl, rr⟩ := r2.hp.insAt hc ra
        by_cases hcs : c ∈ cs ∧ (fs.map (·.1)).length < 1000
        · rw [if_pos hcs] at fin2
          obtain ⟨C', hm', cl, na⟩ := hF c hcs.1
          rw [hm] at hm'
          cases hm'
          have hl := hcs.2
          rw [List.length_map] at hl
          obtain ⟨q1, q2⟩ := putC_rel (fl := fl) (rv.mono s2.f s2.p) rr
          refine ⟨p, C, dx, fs, rfl, hH, cl, na, hl, fin2 F2 θ2 σ _ (r2.write ha ?_)⟩
          rw [← q1]
          exact .ins hm q2
        · rw [if_neg hcs] at fin2; exact fin2.elim
      · exact fin2.elim
theorem ms_sto {k : Expr} {fo fk : EM} {spos : Pos} (ho : PM X E o fo) (hk : PM X E k fk) (he : PM X E e f)
    (ha : ∀ v, assign (.Subscript o k spos) X.env v = (do
      let ov ← holding [v] (eval o X.env)
      let iv ← holding [v, ov] (eval k X.env)
      standAt spos
      holding [v, ov, iv] (setItem ov iv v)
      release [v, ov, iv] []) := by intro _; rfl)
    (hs : swapsWithSole [.Subscript o k spos] e pos.line X.env = pure false := by rfl) (hw : swappedStores [.Subscript o k spos] e X.env = pure none := by rfl) (h1 : (assignEach [.Subscript o k spos] X.env).map (·.2) = [assign (.Subscript o k spos) X.env] := by rfl) :
    PMS X E (.Assign [.Subscript o k spos] e pos) (mSto fo fk f) :=
  ps_weak (ps_asg he (pg_sub ho hk set_list ha) hs hw h1) fun Dn σ H ⟨He, Fe, θe, F, θ, ρ, μ, r, fin⟩ => r.eval fin fun v m μ1 F1 H1 θ1 r1 s1 rv fin1 => r1.eval fin1 fun w a μ2 F2 H2 θ2 r2 s2 ra fin2 => r2.eval fin2 fun u k μ3 F3 H3 θ3 r3 s3 rk fin3 => by
    unfold stoM at fin3
    split at fin3
    · rename_i i z
      split at fin3
      · rename_i ms hc
        obtain ⟨p, xs, rfl, hp, hH, rr⟩ := r3.hp.lstAt hc (ra.mono s3.f s3.p)
        split at fin3
        · rename_i j hj
          cases rk
          exact ⟨p, xs, z, j, rfl, rfl, hH, by rw [rr.length]; exact hj, fin3 F3 θ3 σ _ (r3.write hp (.lst (rr.set ((rv.mono s2.f s2.p).mono s3.f s3.p) j)))⟩
        · exact fin3.elim
      · exact fin3.elim
    · exact fin3.elim
theorem ms_aug {i : Nat} {x : Str} {op : Operator} {r : R2} {o : D → D → R D} {pos' : Pos} (hN : X.N.Nodup) (hi : X.N[i]? = some x) (hx : Loc X.env.scope x) (he : PM X E e f) (ho : OpR X (inplaceOp op) r) (od : OpD X E r o) (hf : X.fn x = true ∨ X.env.scope.names.lookup x = some .local := by first | exact .inl rfl | exact .inr rfl | assumption) :
    PMS X E (.AugAssign (.Name x pos') op e pos) (mAug i o f) :=
  ps_weak (ps_aug hN hi hx he ho hf) fun Dn σ H ⟨He, Fe, θe, F, θ, ρ, μ, rl, fin⟩ => by
    unfold mAug xOp xV at fin
    split at fin
    · rename_i m hm
      obtain ⟨v, h1, h2⟩ := rl.en.var i m hm
      simp only [T.bind_ok] at fin
      have fin : FinS2 X.K X.mg E He Fe θe Dn ((f ρ μ).bind fun b μ2 => (opM o m b μ2).bind fun m μ1 => .ok (.nx (ρ.set i (some m))) μ1) := by
        cases hq : f ρ μ with
        | bad => rw [hq] at fin; exact fin
        | err c μ1 => rw [hq] at fin; exact fin
        | ok b μ1 => rw [hq] at fin; exact fin
      refine ⟨v, h1, rl.eval fin fun w n μ2 F2 H2 θ2 r2 s2 rw' fin2 => ?_⟩
      refine opM_run od r2.hp (h2.mono s2.f s2.p) rw' ?_
      cases hz : opM o m n μ2 with
      | bad => rw [hz] at fin2; exact fin2
      | err c μ3 => rw [hz] at fin2; exact fun C F3 H3 θ3 s3 h3 mm => fin2 C F3 H3 θ3 (r2.st.trans s3) h3 mm
      | ok z μ3 => rw [hz] at fin2; exact fun u F3 H3 θ3 s3 h3 ru => fin2 F3 θ3 _ H3 ⟨h3, (r2.en.mono s3.f s3.p).set ru, r2.st.trans s3⟩
    · exact fin.elim
theorem tS2_par {is : List Nat} (Dn : Ends) (σ : L2.St) (H : Hp) (h : tS2 X.K X.mg E (mPar is fs) Dn σ H) :
    tMs X.K X.mg E fs σ H (fun vs H1 => vs.length = is.length ∧ vs.length ≤ 1000 ∧ ∀ H2, Same H1 H2 → Dn.nx (setV σ (is.zip vs)) H2) := by
  obtain ⟨He, Fe, θe, F, θ, ρ, μ, r, fin⟩ := h
  refine r.eval fin fun vs ms μ1 F1 H1 θ1 r1 s1 rv fin1 => ?_
  by_cases hl : ms.length = is.length ∧ ms.length ≤ 1000
  · rw [if_pos hl] at fin1
    exact ⟨by rw [rv.length]; exact hl.1, by rw [rv.length]; exact hl.2, fun H2 e => fin1 F1 θ1 _ H2 ((r1.setMs rv).grow e)⟩
  · rw [if_neg hl] at fin1; exact fin1.elim
theorem tMs_imp {Q Q' : List V → Hp → Prop} {σ : L2.St} {H : Hp} (h : tMs X.K X.mg E fs σ H Q) (i : ∀ vs H, Q vs H → Q' vs H) : tMs X.K X.mg E fs σ H Q' := by
  obtain ⟨F, θ, ρ, μ, hp, en, fin⟩ := h
  refine ⟨F, θ, ρ, μ, hp, en, ?_⟩
  cases hf : fs ρ μ with
  | bad => rw [hf] at fin; exact fin
  | err c μ1 => rw [hf] at fin; exact fin
  | ok a μ1 => rw [hf] at fin; exact fun b F2 H2 θ2 s h r => i b H2 (fin b F2 H2 θ2 s h r)
theorem ms_par {i j : Nat} {x y : Str} {a b : Expr} {px py pt : Pos} {kt k2 pt2} (hc : X.calm = true) (hN : X.N.Nodup) (hi : X.N[i]? = some x) (hj : X.N[j]? = some y) (hij : i ≠ j)
    (hx : X.env.scope.names.lookup x = some .local) (hy : X.env.scope.names.lookup y = some .local) (ha : PMs X E [a, b] fs)
    (hw : swappedStores [.Tuple [.Name x px, .Name y py] kt pt] (.Tuple [a, b] k2 pt2) X.env = pure (some [x, y]))
    (hs : swapsWithSole [.Tuple [.Name x px, .Name y py] kt pt] (.Tuple [a, b] k2 pt2) pos.line X.env = pure false := by rfl) :
    PMS X E (.Assign [.Tuple [.Name x px, .Name y py] kt pt] (.Tuple [a, b] k2 pt2) pos) (mPar [i, j] fs) :=
  ps_weak (ps_par hc hN hi hj hij hx hy ha hw hs) fun Dn σ H h => tMs_imp (tS2_par Dn σ H h) fun vs H1 ⟨h1, _, h2⟩ => by
    match vs, h1, h2 with
    | [v, w], _, h2 => exact ⟨v, w, rfl, h2 H1 (Same.refl H1)⟩
theorem ms_par3 {i j l : Nat} {x y z : Str} {a b c : Expr} {px py pz pt : Pos} {kt k2 pt2} (hc : X.calm = true) (hN : X.N.Nodup) (hi : X.N[i]? = some x) (hj : X.N[j]? = some y) (hl : X.N[l]? = some z) (hij : i ≠ j) (hil : i ≠ l) (hjl : j ≠ l)
    (hx : X.env.scope.names.lookup x = some .local) (hy : X.env.scope.names.lookup y = some .local) (hz : X.env.scope.names.lookup z = some .local) (ha : PMs X E [a, b, c] fs)
    (hw : swappedStores [.Tuple [.Name x px, .Name y py, .Name z pz] kt pt] (.Tuple [a, b, c] k2 pt2) X.env = pure (some [x, y, z]))
    (hs : swapsWithSole [.Tuple [.Name x px, .Name y py, .Name z pz] kt pt] (.Tuple [a, b, c] k2 pt2) pos.line X.env = pure false := by rfl) :
    PMS X E (.Assign [.Tuple [.Name x px, .Name y py, .Name z pz] kt pt] (.Tuple [a, b, c] k2 pt2) pos) (mPar [i, j, l] fs) :=
  ps_weak (ps_par3 hc hN hi hj hl hij hil hjl hx hy hz ha hw hs) fun Dn σ H h => tMs_imp (tS2_par Dn σ H h) fun vs H1 ⟨h1, _, h2⟩ => by
    match vs, h1, h2 with
    | [u, v, w], _, h2 => exact ⟨u, v, w, rfl, h2 H1 (Same.refl H1)⟩
theorem ms_parT {is : List Nat} {es ts : List Expr} {kt k2 : Nat} {pt pt2 : Pos} (hc : X.calm = true) (ha : PMs X E es fs) (hg : PGs X ts (gNames is)) (hn : (assignEach ts X.env).length = is.length := by rfl) (hst : (assignEach ts X.env).findIdx? (·.1) = none := by rfl)
    (hs : swapsWithSole [.Tuple ts kt pt] (.Tuple es k2 pt2) pos.line X.env = pure false := by rfl) (hw : swappedStores [.Tuple ts kt pt] (.Tuple es k2 pt2) X.env = pure none := by rfl)
    (h1 : (assignEach [.Tuple ts kt pt] X.env).map (·.2) = [assign (.Tuple ts kt pt) X.env] := by rfl) : PMS X E (.Assign [.Tuple ts kt pt] (.Tuple es k2 pt2) pos) (mPar is fs) :=
  ps_weak (ps_asg (pe_tup ha) (pg_tup hc hg hn hst) hs hw h1) fun Dn σ H h => tMs_imp (tS2_par Dn σ H h) fun vs H1 ⟨h1, h0, h2⟩ =>
    ⟨Nat.le_trans h0 (by decide), fun p hp => ⟨p, vs, rfl, SqT.of upd_same, h1, gNames_of h1.symm (h2 _ (same_upd hp))⟩⟩
end
end ML
/-! The store layer, 4: defs, methods, makers; the end of a law. -/
namespace ML
open PySem L2 DL
def spM (K : PySem.W.Frag) (mg : Str → Option Value) (n : Nat) (q : List MV → Sto → T MV) : Sp := fun vs H Q E => ∃ F θ ms μ, ms.length = n ∧ HeapM K mg F H θ μ ∧ RvMs K mg F θ vs ms ∧ FinG K mg E (RvM K mg) F H θ Q (q ms μ)
def initM (n : Nat) (ms : List MV) : MEnv := ms.map some ++ List.replicate (n - ms.length) none
def outM (o : OutM) (μ : Sto) : T MV := match o with
  | .rt m => .ok m μ
  | .nx _ => .ok (.da .non) μ
  | _ => .bad
def runM (n : Nat) (S : SM) : List MV → Sto → T MV := fun ms μ => (S (initM n ms) μ).bind outM
section
variable {P : Program} {w : World} {K : PySem.W.Frag} {mg : Str → Option Value} {base : Heap}
theorem EnvM.init {F : Hp} {θ : List Addr} {n : Nat} {vs : List V} {ms : List MV} {N : List Str} (hn : N.length = n) (r : RvMs K mg F θ vs ms) : EnvM K mg F θ (L2.start N vs) (initM n ms) where
  len := by unfold initM L2.start; simp [r.length, hn]
  var := fun i d h => by
    unfold initM at h
    unfold L2.start
    by_cases hi : i < ms.length
    · rw [List.getElem?_append_left (by simpa using hi), List.getElem?_map, List.getElem?_eq_getElem hi] at h
      cases h
      obtain ⟨v, h1, h2⟩ := r.get (List.getElem?_eq_getElem hi)
      refine ⟨v, ?_, h2⟩
      rw [List.getElem?_append_left (by simpa [r.length] using hi), List.getElem?_map, h1]
      rfl
    · rw [List.getElem?_append_right (by simpa using hi)] at h
      rw [List.getElem?_replicate] at h
      split at h <;> cases h
theorem fn_m {x qual : Str} {st : Stmt} {f : Addr} {fd : FuncData} {N ps : List Str} {k : Nat} {S : SM} (Fu : Fun K x qual st f fd) (sc : FnScope N ps (defScope st))
    (hb : ∀ (cdv : Value) (A : Around) (outer : List PySem.Env) (s : Shared) (H : Hp) (E : XK), Room k (A.deeper (PyProof.Rows.envOfC qual (defScope st) s.heap.objs.size f cdv)) → PMSs (cxOf (L2.CX P w) P w K mg base N qual (defScope st) f cdv A outer s H E) E (defBody st) S) :
    FnOk P w K mg base (L2.CX P w) (k + 1) f fd ps (spM K mg ps.length (runM N.length S)) :=
  Fu.okX sc (fun vs H Q E h => by
    obtain ⟨F, θ, ms, μ, hl, _, r, _⟩ := h
    rw [r.length, hl]) fun cdv A outer s H vs Q E hr h => ⟨_, hb cdv A outer s H E hr, by
    obtain ⟨F, θ, ms, μ, hl, hp, r, fin⟩ := h
    refine ⟨H, F, θ, F, θ, initM N.length ms, μ, ⟨hp, EnvM.init rfl r, StpM.refl F H θ⟩, ?_⟩
    unfold runM at fin
    cases hs : S (initM N.length ms) μ with
    | bad => rw [hs] at fin; exact fin
    | err c μ1 => rw [hs] at fin; exact fin
    | ok o μ1 =>
      rw [hs] at fin
      cases o with
      | nx ρ => exact fun F' θ' σ H' r' => fin .non F' H' θ' r'.st r'.hp .non
      | bk ρ => exact fin.elim
      | ct ρ => exact fin.elim
      | rt m => exact fun v F' H' θ' s h' rv => fin v F' H' θ' s h' rv⟩
theorem hd_m {x : Str} {st : Stmt} {N ps : List Str} {k : Nat} {S : SM} (at_ : At K mg x st) (sc : FnScope N ps (defScope st))
    (hbd : ∀ (kV doc pm : Value) (an : Option Addr) (cdv ct : Value) (us : List Value), us.length = ps.length → bindArgs (PySem.W.fnOf x x (defArgs st) (defBody st) (defScope st) .none kV doc pm an cdv ct) ⟨us, []⟩ = pure (ps.zip us))
    (hb : ∀ (f : Addr) (cdv : Value) (A : Around) (outer : List PySem.Env) (s : Shared) (H : Hp) (E : XK), Room k (A.deeper (PyProof.Rows.envOfC x (defScope st) s.heap.objs.size f cdv)) → PMSs (cxOf (L2.CX P w) P w K mg base N x (defScope st) f cdv A outer s H E) E (defBody st) S) :
    HasDef P w K mg base x ps (k + 1) (spM K mg ps.length (runM N.length S)) := by
  obtain ⟨f, fd, hm, Fu⟩ := at_
  exact ⟨f, fd, hm, fn_m Fu sc (hb f), Fu.kp, Fu.binds hbd⟩
theorem hm_m {c m qual : Str} {st : Stmt} {N ps : List Str} {k : Nat} {S : SM} (at_ : AtM K mg c m qual st) (sc : FnScope N ps (defScope st))
    (hbd : ∀ (kV doc pm : Value) (an : Option Addr) (cdv ct : Value) (us : List Value), us.length = ps.length → bindArgs (PySem.W.fnOf m qual (defArgs st) (defBody st) (defScope st) .none kV doc pm an cdv ct) ⟨us, []⟩ = pure (ps.zip us))
    (hb : ∀ (f : Addr) (cdv : Value) (A : Around) (outer : List PySem.Env) (s : Shared) (H : Hp) (E : XK), Room k (A.deeper (PyProof.Rows.envOfC qual (defScope st) s.heap.objs.size f cdv)) → PMSs (cxOf (L2.CX P w) P w K mg base N qual (defScope st) f cdv A outer s H E) E (defBody st) S) :
    HasMeth P w K mg base c m ps (k + 1) (spM K mg ps.length (runM N.length S)) := by
  obtain ⟨C, f, fd, hm, cl, me, Fu⟩ := at_
  exact ⟨C, f, fd, hm, cl, me, fn_m Fu sc (hb f), Fu.binds hbd⟩
theorem hi_m {c qual : Str} {st : Stmt} {N ps : List Str} {k : Nat} {S : SM} (at_ : AtI K mg c qual st) (sc : FnScope N ps (defScope st))
    (hbd : ∀ (kV doc pm : Value) (an : Option Addr) (cdv ct : Value) (us : List Value), us.length = ps.length → bindArgs (PySem.W.fnOf "__init__" qual (defArgs st) (defBody st) (defScope st) .none kV doc pm an cdv ct) ⟨us, []⟩ = pure (ps.zip us))
    (hb : ∀ (f : Addr) (cdv : Value) (A : Around) (outer : List PySem.Env) (s : Shared) (H : Hp) (E : XK), Room k (A.deeper (PyProof.Rows.envOfC qual (defScope st) s.heap.objs.size f cdv)) → PMSs (cxOf (L2.CX P w) P w K mg base N qual (defScope st) f cdv A outer s H E) E (defBody st) S) :
    HasInit P w K mg base c ps (k + 1) (spM K mg ps.length (runM N.length S)) := by
  obtain ⟨C, f, fd, hmg, cl, mk, Fu⟩ := at_
  exact ⟨C, f, fd, hmg, mk, fn_m Fu sc (hb f), Fu.binds hbd⟩
end
def xMeth (c m : Str) (n : Nat) (q : List MV → Sto → T MV) (f : EM) (fs : MEnv → Sto → T (List MV)) : EM := fun ρ μ => (f ρ μ).bind fun a μ1 => match a with
  | .hd i => match μ1[i]? with
    | some (.ins c' ns _) => if c' = c ∧ m ∉ ns then (fs ρ μ1).bind fun as μ2 => callM n q (.hd i :: as) μ2 else .bad
    | _ => .bad
  | _ => .bad
def madeM (i : Nat) (m : MV) (μ : Sto) : T MV := match m with
  | .da .non => .ok (.hd i) μ
  | _ => .bad
def xMake (c : Str) (n : Nat) (q : List MV → Sto → T MV) (fs : MEnv → Sto → T (List MV)) : EM := fun ρ μ => (fs ρ μ).bind fun as μ1 => if as.length + 1 = n then (q (.hd μ1.length :: as) (μ1 ++ [.ins c [] []])).bind (madeM μ1.length) else .bad
section
variable {X : Cx} {E : XK} {k j : Nat} {ps : List Str} {x : Str} {p pos : Pos} {e o : Expr} {es : List Expr} {fs : MEnv → Sto → T (List MV)} {f : EM} {n : Nat} {q : List MV → Sto → T MV}
theorem pm_def (G : HasDef X.prog X.w X.K X.mg X.base x ps j (spM X.K X.mg n q)) (hr : Room k X.A) (hj : j ≤ k) (hg : Gl X x) (hx : Passes (L2.CX X.prog X.w) X E) (ha : PMs X E (e :: es) fs) (hdb : (x == ("__debug__" : Str)) = false := by decide)
    (he : starEach (e :: es) X.env = (false, eval e X.env) :: starEach es X.env := by rfl) (hpl : (backTo pos (starEach es X.env)).any (·.1) = false := by rfl) : PM X E (.Call (.Name x p) (e :: es) [] pos) (xCall (callM n q) fs) := by
  obtain ⟨f, fd, a, b, c, d⟩ := G
  refine pe_weak (pe_call b (hr.mono hj) hg a c d .nil hx ha hdb he hpl) fun σ H Q ⟨F, θ, ρ, μ, hp, en, fin⟩ => tGM_step hp en fin fun vs ms μ1 F1 H1 θ1 s1 hp1 en1 r1 fin1 => ?_
  unfold callM at fin1
  by_cases hl : ms.length = n
  · rw [if_pos hl] at fin1
    rw [List.append_nil]
    exact ⟨F1, θ1, ms, μ1, hl, hp1, r1, fin1⟩
  · rw [if_neg hl] at fin1; exact fin1.elim
theorem pm_def0 (G : HasDef X.prog X.w X.K X.mg X.base x ps j (spM X.K X.mg 0 q)) (hr : Room k X.A) (hj : j ≤ k) (hg : Gl X x) (hx : Passes (L2.CX X.prog X.w) X E) (hdb : (x == ("__debug__" : Str)) = false := by decide) : PM X E (.Call (.Name x p) [] [] pos) (fun _ μ => q [] μ) := by
  obtain ⟨f, fd, a, b, c, d⟩ := G
  refine pe_weak (pe_call0 b (hr.mono hj) hg a c d .nil hx hdb) fun σ H Q ⟨F, θ, ρ, μ, hp, en, fin⟩ => ?_
  exact ⟨F, θ, [], μ, rfl, hp, .nil, fin⟩
theorem callP_run {o : List D → R D} {F H : Hp} {θ : List Addr} {μ : Sto} {vs : List V} {ms : List MV} {Q : VK} (hp : HeapM X.K X.mg F H θ μ) (r : RvMs X.K X.mg F θ vs ms) (fin : FinG X.K X.mg E (RvM X.K X.mg) F H θ Q (callP o ms μ)) : ∃ ds, Rps X.K X.mg F vs ds ∧ Fin X.K X.mg E F H Q (o ds) := by
  unfold callP at fin
  split at fin
  · rename_i ds hd
    exact ⟨ds, dataOf_rps hd r, FinG.toFin hp fin⟩
  · exact fin.elim
/-- a pure def, its arguments all data -/
theorem pm_defP {o : List D → R D} (G : HasDef X.prog X.w X.K X.mg X.base x ps j (spX X.K X.mg n o)) (hr : Room k X.A) (hj : j ≤ k) (hg : Gl X x) (hx : Passes (L2.CX X.prog X.w) X E) (ha : PMs X E (e :: es) fs) (hdb : (x == ("__debug__" : Str)) = false := by decide)
    (he : starEach (e :: es) X.env = (false, eval e X.env) :: starEach es X.env := by rfl) (hpl : (backTo pos (starEach es X.env)).any (·.1) = false := by rfl) : PM X E (.Call (.Name x p) (e :: es) [] pos) (xCallP (callF n o) fs) := by
  obtain ⟨f, fd, a, b, c, d⟩ := G
  refine pe_weak (pe_call b (hr.mono hj) hg a c d .nil hx ha hdb he hpl) fun σ H Q ⟨F, θ, ρ, μ, hp, en, fin⟩ => tGM_step hp en fin fun vs ms μ1 F1 H1 θ1 s1 hp1 en1 r1 fin1 => ?_
  obtain ⟨ds, rd, fin2⟩ := callP_run hp1 r1 fin1
  unfold callF at fin2
  by_cases hl : ds.length = n
  · rw [if_pos hl] at fin2
    rw [List.append_nil]
    exact ⟨F1, ds, hl, hp1.fh, rd, fin2⟩
  · rw [if_neg hl] at fin2; exact fin2.elim
theorem pm_cb {id : String} {r : List V → Hp → VK → Prop} {o : List D → R D} (hc : CallR X (.builtin id) r) (cd : CallD X E r o) (hg : Gl X x) (hm : X.mg x = none) (hv : bootBuiltins x = some (.builtin id)) (ha : PMs X E (e :: es) fs) (hn : x ≠ "__name__" := by decide) (hdb : (x == ("__debug__" : Str)) = false := by decide)
    (he : starEach (e :: es) X.env = (false, eval e X.env) :: starEach es X.env := by rfl) (hpl : (backTo pos (starEach es X.env)).any (·.1) = false := by rfl) : PM X E (.Call (.Name x p) (e :: es) [] pos) (xCallP o fs) :=
  pe_weak (pe_callB hc hg hm hv ha hn hdb he hpl) fun σ H Q ⟨F, θ, ρ, μ, hp, en, fin⟩ => tGM_step hp en fin fun vs ms μ1 F1 H1 θ1 s1 hp1 en1 r1 fin1 => by
    obtain ⟨ds, rd, fin2⟩ := callP_run hp1 r1 fin1
    exact cd F1 H1 vs ds Q hp1.fh rd fin2
theorem pm_meth {cn m : Str} {apos : Pos} {pl : Sem Bool} (G : HasMeth X.prog X.w X.K X.mg X.base cn m ps j (spM X.K X.mg n q)) (hr : Room k X.A) (hj : j ≤ k) (hx : Passes (L2.CX X.prog X.w) X E) (ho : PM X E o f) (ha : PMs X E (e :: es) fs)
    (hst : starEach (e :: es) X.env = (false, eval e X.env) :: starEach es X.env := by rfl) (hpl : (backTo pos (starEach es X.env)).any (·.1) = false := by rfl)
    (ht : eval (.Call (.Attribute o m apos) (e :: es) [] pos) X.env = (do
      let ov ← eval o X.env
      standAt apos.atName
      let (f, first) ← holding [ov] (getMethod ov m pl)
      callWith pos f first (backTo pos (starEach (e :: es) X.env)) (backToKw pos (keywordEach [] X.env))) := by rfl) :
    PM X E (.Call (.Attribute o m apos) (e :: es) [] pos) (xMeth cn m n q f fs) := by
  obtain ⟨C, fa, fd, hm, cl, me, Fn, bi⟩ := G
  refine pe_weak (pe_meth ho cl me Fn (hr.mono hj) bi .nil hx ha hst hpl ht) fun σ H Q ⟨F, θ, ρ, μ, hp, en, fin⟩ => tGM_step hp en fin fun v a μ1 F1 H1 θ1 s1 hp1 en1 r1 fin1 => ?_
  cases a with
  | da d => exact fin1.elim
  | hd i =>
    simp only at fin1
    split at fin1
    · rename_i c ns ms hc
      obtain ⟨p, C', dx, fl, rfl, hpa, hH, hm', rfl, rr⟩ := hp1.insAt hc r1
      by_cases hcs : c = cn ∧ m ∉ fl.map (·.1)
      · rw [if_pos hcs] at fin1
        obtain ⟨rfl, hn⟩ := hcs
        rw [hm] at hm'
        cases hm'
        refine ⟨p, dx, fl, rfl, hH, look_none hn, tGM_step hp1 en1 fin1 fun vs as μ2 F2 H2 θ2 s2 hp2 en2 r2 fin2 => ?_⟩
        unfold callM at fin2
        split at fin2
        · rename_i hl
          rw [List.append_nil]
          exact ⟨F2, θ2, _, μ2, hl, hp2, .cons (r1.mono s2.f s2.p) r2, fin2⟩
        · exact fin2.elim
      · rw [if_neg hcs] at fin1; exact fin1.elim
    · exact fin1.elim
theorem pm_meth0 {cn m : Str} {apos : Pos} {pl : Sem Bool} (G : HasMeth X.prog X.w X.K X.mg X.base cn m ps j (spM X.K X.mg n q)) (hr : Room k X.A) (hj : j ≤ k) (hx : Passes (L2.CX X.prog X.w) X E) (ho : PM X E o f)
    (ht : eval (.Call (.Attribute o m apos) [] [] pos) X.env = (do
      let ov ← eval o X.env
      standAt apos.atName
      let (f, first) ← holding [ov] (getMethod ov m pl)
      callWith pos f first (backTo pos (starEach [] X.env)) (backToKw pos (keywordEach [] X.env))) := by rfl) :
    PM X E (.Call (.Attribute o m apos) [] [] pos) (xMeth cn m n q f yNil) := by
  obtain ⟨C, fa, fd, hm, cl, me, Fn, bi⟩ := G
  refine pe_weak (pe_meth0 ho cl me Fn (hr.mono hj) bi .nil hx ht) fun σ H Q ⟨F, θ, ρ, μ, hp, en, fin⟩ => tGM_step hp en fin fun v a μ1 F1 H1 θ1 s1 hp1 en1 r1 fin1 => ?_
  cases a with
  | da d => exact fin1.elim
  | hd i =>
    simp only at fin1
    split at fin1
    · rename_i c ns ms hc
      obtain ⟨p, C', dx, fl, rfl, hpa, hH, hm', rfl, rr⟩ := hp1.insAt hc r1
      by_cases hcs : c = cn ∧ m ∉ fl.map (·.1)
      · rw [if_pos hcs] at fin1
        obtain ⟨rfl, hn⟩ := hcs
        rw [hm] at hm'
        cases hm'
        refine ⟨p, dx, fl, rfl, hH, look_none hn, ?_⟩
        have fin2 : FinG X.K X.mg E (RvM X.K X.mg) F1 H1 θ1 Q (callM n q [.hd i] μ1) := fin1
        unfold callM at fin2
        split at fin2
        · rename_i hl
          exact ⟨F1, θ1, _, μ1, hl, hp1, .cons r1 .nil, fin2⟩
        · exact fin2.elim
      · rw [if_neg hcs] at fin1; exact fin1.elim
    · exact fin1.elim
theorem make_run {C dx pp : Addr} {F1 H1 : Hp} {θ1 : List Addr} {μ1 : Sto} {Q : VK} {ms : List MV} {us : List V} (hm : X.mg x = some (.ref C)) (hp1 : HeapM X.K X.mg F1 H1 θ1 μ1) (r1 : RvMs X.K X.mg F1 θ1 us ms)
    (fin1 : FinG X.K X.mg E (RvM X.K X.mg) F1 H1 θ1 Q (if ms.length + 1 = n then (q (.hd μ1.length :: ms) (μ1 ++ [.ins x [] []])).bind (madeM μ1.length) else .bad)) (hx : H1 pp = none) (hdx : H1 dx = none) (ne : dx ≠ pp) :
    spM X.K X.mg n q (.ref pp :: us) (upd (upd H1 dx (.own pp)) pp (.ins C dx [])) (fun v H2 => v = .non ∧ Q (.ref pp) H2) E := by
  have sH : Same H1 (upd (upd H1 dx (.own pp)) pp (.ins C dx [])) := fun a o h => by rw [upd_ne (ne_of_none h hx), upd_ne (ne_of_none h hdx)]; exact h
  by_cases hl : ms.length + 1 = n
  · rw [if_pos hl] at fin1
    have hp2 : HeapM X.K X.mg F1 (upd (upd H1 dx (.own pp)) pp (.ins C dx [])) (θ1 ++ [pp]) (μ1 ++ [.ins x [] []]) := (hp1.grow sH).snoc (hp1.notIn hx) (hp1.fh.free hx) upd_same (RoM.ins (fs := []) hm .nil)
    have hget : (θ1 ++ [pp])[μ1.length]? = some pp := by
      rw [← hp1.len, List.getElem?_append_right (Nat.le_refl _), Nat.sub_self]; rfl
    refine ⟨F1, θ1 ++ [pp], .hd μ1.length :: ms, μ1 ++ [.ins x [] []], hl, hp2, .cons ⟨pp, hget, rfl⟩ (r1.mono (Same.refl F1) ⟨[pp], rfl⟩), ?_⟩
    have fin2 := FinG.step (StpM.snoc (F := F1) (θ := θ1) sH hx) fin1
    cases hq : q (.hd μ1.length :: ms) (μ1 ++ [.ins x [] []]) with
    | bad => rw [hq] at fin2; exact fin2
    | err c μ2 => rw [hq] at fin2; exact fin2
    | ok m μ2 =>
      rw [hq] at fin2
      have fin2 : FinG X.K X.mg E (RvM X.K X.mg) F1 _ (θ1 ++ [pp]) Q (madeM μ1.length m μ2) := fin2
      unfold madeM at fin2
      split at fin2
      · intro v F2 H2 θ2 s2 hp3 rv
        have rv : Rp X.K X.mg F2 v .non := rv
        cases rv
        exact ⟨rfl, fin2 (.ref pp) F2 H2 θ2 s2 hp3 ⟨pp, s2.p.get hget, rfl⟩⟩
      · exact fin2.elim
  · rw [if_neg hl] at fin1; exact fin1.elim
theorem pm_make (G : HasInit X.prog X.w X.K X.mg X.base x ps j (spM X.K X.mg n q)) (hr : Room k X.A) (hj : j + 1 ≤ k) (hg : Gl X x) (hx : Passes (L2.CX X.prog X.w) X E) (ha : PMs X E (e :: es) fs) (hdb : (x == ("__debug__" : Str)) = false := by decide)
    (he : starEach (e :: es) X.env = (false, eval e X.env) :: starEach es X.env := by rfl) (hpl : (backTo pos (starEach es X.env)).any (·.1) = false := by rfl) : PM X E (.Call (.Name x p) (e :: es) [] pos) (xMake x n q fs) := by
  obtain ⟨C, f, fd, hm, mk, Fn, bi⟩ := G
  refine pe_weak (L2.pe_make mk Fn (hr.mono hj) hg hm bi .nil hx ha hdb he hpl) fun σ H Q ⟨F, θ, ρ, μ, hp, en, fin⟩ => tGM_step hp en fin fun vs ms μ1 F1 H1 θ1 s1 hp1 en1 r1 fin1 => ?_
  intro pp dx h1 h2 ne
  rw [List.append_nil]
  exact make_run hm hp1 r1 fin1 h1 h2 ne
theorem pm_make0 (G : HasInit X.prog X.w X.K X.mg X.base x ps j (spM X.K X.mg n q)) (hr : Room k X.A) (hj : j + 1 ≤ k) (hg : Gl X x) (hx : Passes (L2.CX X.prog X.w) X E) (hdb : (x == ("__debug__" : Str)) = false := by decide) : PM X E (.Call (.Name x p) [] [] pos) (xMake x n q yNil) := by
  obtain ⟨C, f, fd, hm, mk, Fn, bi⟩ := G
  refine pe_weak (L2.pe_make0 mk Fn (hr.mono hj) hg hm bi .nil hx hdb) fun σ H Q ⟨F, θ, ρ, μ, hp, en, fin⟩ => ?_
  intro pp dx h1 h2 ne
  exact make_run (ms := []) (us := []) hm hp .nil fin h1 h2 ne
end
theorem law_endM {P : Program} {w : World} {K : PySem.W.Frag} {mg : Str → Option Value} {fa : Addr} {x : Str} {st : Stmt} {N : List Str} {k : Nat} {S : SM} (at_ : At K mg "law" st) (hmg : mg "law" = some (.ref fa)) (sc : FnScope N [x] (defScope st))
    (hbd : ∀ (kV doc pm : Value) (an : Option Addr) (cdv ct : Value) (s : Shared) (u : Value), BindsTo s (PySem.W.fnOf "law" "law" (defArgs st) (defBody st) (defScope st) .none kV doc pm an cdv ct) ⟨[u], []⟩ [(x, u)])
    (hb : ∀ (base : Heap) (f : Addr) (cdv : Value) (A : Around) (outer : List PySem.Env) (s : Shared) (H : Hp) (E : XK), Room k (A.deeper (PyProof.Rows.envOfC "law" (defScope st) s.heap.objs.size f cdv)) → PMSs (cxOf (L2.CX P w) P w K mg base N "law" (defScope st) f cdv A outer s H E) E (defBody st) S)
    (ht : ∀ ns : List Int, ns.length ≤ 63 → ∃ μ, runM N.length S [.da (.scr ns)] [] = .ok (.da (.bl true)) μ) :
    ∃ fd : FuncData, (∀ (s : Shared) (u : Value), BindsTo s fd ⟨[u], []⟩ [(x, u)]) ∧ ∀ base : Heap, K.In base → base.Ns mainGlobals mg → FnOk P w K mg base (L2.CX P w) (k + 1) fa fd [x] (spLaw K) := by
  obtain ⟨f, fd, hm, Fu⟩ := at_
  rw [hm] at hmg
  cases hmg
  refine ⟨fd, ?_, fun base _ _ => (fn_m Fu sc (hb base _)).imp fun vs H Q E ⟨a, ns, e, hS, hl, q⟩ => ?_⟩
  · obtain ⟨oc, od, kV, doc, pm, an, cdv, ct, osl, rfl, lk, hcd⟩ := Fu.ex
    exact hbd kV doc pm an cdv ct
  · subst e
    obtain ⟨μ, hμ⟩ := ht ns hl
    refine ⟨H, [], [.da (.scr ns)], [], rfl, ⟨Same.refl H, rfl, .nil, fun i c h => by simp at h⟩, .cons (.scr hS) .nil, ?_⟩
    rw [hμ]
    intro v F2 H2 θ2 _ _ r
    have r : Rp K mg F2 v (.bl true) := r
    cases r
    exact q H2
end ML
/-! The store layer, 5: pure defs and methods called with handles: on a snapshot. -/
namespace ML
open PySem L2 DL
def flatK (d : D) (μ : Sto) : T MV := if flatD d then .ok (.da d) μ else .bad
def callS (o : List D → R D) (as : List MV) (μ : Sto) : T MV := match optAll (snap μ 3) as with
  | some ds => up (o ds) μ fun d => flatK d μ
  | none => .bad
def xCallS (o : List D → R D) (fs : MEnv → Sto → T (List MV)) : EM := fun ρ μ => (fs ρ μ).bind (callS o)
/-- a new list by a pure def: as data -/
def callSN (o : List D → R (List D)) (as : List MV) (μ : Sto) : T MV := match optAll (snap μ 3) as with
  | some ds => up (o ds) μ fun es => if es.all flatD then .ok (.da (.lst es)) μ else .bad
  | none => .bad
def xCallSN (o : List D → R (List D)) (fs : MEnv → Sto → T (List MV)) : EM := fun ρ μ => (fs ρ μ).bind (callSN o)
/-- a new list by a pure def: as a cell -/
def callSC (o : List D → R (List D)) (as : List MV) (μ : Sto) : T MV := match optAll (snap μ 3) as with
  | some ds => up (o ds) μ fun es => if es.all flatD then .ok (.hd μ.length) (μ ++ [.lst (es.map .da)]) else .bad
  | none => .bad
def xCallSC (o : List D → R (List D)) (fs : MEnv → Sto → T (List MV)) : EM := fun ρ μ => (fs ρ μ).bind (callSC o)
def methS (c m : Str) (q : List D → R D) (a : MV) (as : List MV) (μ : Sto) : T MV := match a with
  | .hd i => match μ[i]? with
    | some (.ins c' ns _) => if c' = c ∧ m ∉ ns then callS q (.hd i :: as) μ else .bad
    | _ => .bad
  | .da d => match DL.isObj c m d with
    | .ok _ => callS q (.da d :: as) μ
    | _ => .bad
def isIns (c m : Str) (a : MV) (μ : Sto) : T Unit := match a with
  | .hd i => match μ[i]? with
    | some (.ins c' ns _) => if c' = c ∧ m ∉ ns then .ok () μ else .bad
    | _ => .bad
  | .da d => match DL.isObj c m d with
    | .ok _ => .ok () μ
    | _ => .bad
def xMethS (c m : Str) (n : Nat) (q : List D → R D) (f : EM) (fs : MEnv → Sto → T (List MV)) : EM := fun ρ μ => (f ρ μ).bind fun a μ1 => (isIns c m a μ1).bind fun _ μ2 => (fs ρ μ2).bind fun as μ3 => callS (callF n q) (a :: as) μ3
section
variable {K : PySem.W.Frag} {mg : Str → Option Value} {E : XK} {F H : Hp} {θ : List Addr} {μ : Sto}
theorem FinG.toFinS {Q : VK} {r : R D} (hp : HeapM K mg F H θ μ) (h : FinG K mg E (RvM K mg) F H θ Q (up r μ fun d => flatK d μ)) : Fin K mg E H H Q r := by
  cases r with
  | ok d =>
    intro v F2 H2 s rp
    simp only [up_ok] at h
    unfold flatK at h
    by_cases hd : flatD d = true
    · rw [if_pos hd] at h
      exact h v F H2 θ (StpM.ofSame θ s.h) (hp.grow s.h) (rp.flatAny hd)
    · rw [if_neg hd] at h; exact h.elim
  | err c => exact fun C H2 e m => h C F H2 θ (StpM.ofSame θ e) (hp.grow e) m
  | bad => exact h
theorem callS_run {o : List D → R D} {vs : List V} {ms : List MV} {Q : VK} (hp : HeapM K mg F H θ μ) (r : RvMs K mg F θ vs ms) (fin : FinG K mg E (RvM K mg) F H θ Q (callS o ms μ)) : ∃ ds, Rps K mg H vs ds ∧ Fin K mg E H H Q (o ds) := by
  unfold callS at fin
  split at fin
  · rename_i ds hd
    exact ⟨ds, snaps_rp (snap_rp hp 3) r hd, FinG.toFinS hp fin⟩
  · exact fin.elim
theorem callSN_run {o : List D → R (List D)} {vs : List V} {ms : List MV} {Q : VK} (hp : HeapM K mg F H θ μ) (r : RvMs K mg F θ vs ms) (fin : FinG K mg E (RvM K mg) F H θ Q (callSN o ms μ)) : ∃ ds, Rps K mg H vs ds ∧ FinN K mg E H H Q (o ds) := by
  unfold callSN at fin
  split at fin
  · rename_i ds hd
    refine ⟨ds, snaps_rp (snap_rp hp 3) r hd, ?_⟩
    cases ho : o ds with
    | bad => rw [ho] at fin; exact fin
    | err c => rw [ho] at fin; exact fun C H2 e m => fin C F H2 θ (StpM.ofSame θ e) (hp.grow e) m
    | ok es =>
      rw [ho] at fin
      intro p vs F2 H2 s h1 h2 h3 h4
      simp only [up_ok] at fin
      by_cases hd : es.all flatD = true
      · rw [if_pos hd] at fin
        exact fin (.ref p) (upd F p (.lst vs)) H2 θ (StpM.freeze s.h (hp.fh.free h1) h1) ((hp.grow s.h).freeze (hp.notIn h1) (hp.fh.free h1) h3) (.lst upd_same (h4.flatAny hd))
      · rw [if_neg hd] at fin; exact fin.elim
  · exact fin.elim
theorem callSC_run {o : List D → R (List D)} {vs : List V} {ms : List MV} {Q : VK} (hp : HeapM K mg F H θ μ) (r : RvMs K mg F θ vs ms) (fin : FinG K mg E (RvM K mg) F H θ Q (callSC o ms μ)) : ∃ ds, Rps K mg H vs ds ∧ FinN K mg E H H Q (o ds) := by
  unfold callSC at fin
  split at fin
  · rename_i ds hd
    refine ⟨ds, snaps_rp (snap_rp hp 3) r hd, ?_⟩
    cases ho : o ds with
    | bad => rw [ho] at fin; exact fin
    | err c => rw [ho] at fin; exact fun C H2 e m => fin C F H2 θ (StpM.ofSame θ e) (hp.grow e) m
    | ok es =>
      rw [ho] at fin
      intro p vs F2 H2 s h1 h2 h3 h4
      simp only [up_ok] at fin
      by_cases hd : es.all flatD = true
      · rw [if_pos hd] at fin
        refine fin (.ref p) F H2 (θ ++ [p]) (StpM.snoc s.h h1) ((hp.grow s.h).snoc (hp.notIn h1) (hp.fh.free h1) h3 (.lst (.ofRps (h4.flatAny hd)))) ⟨p, ?_, rfl⟩
        rw [← hp.len, List.getElem?_append_right (Nat.le_refl _), Nat.sub_self]
        rfl
      · rw [if_neg hd] at fin; exact fin.elim
  · exact fin.elim
end
section
variable {X : Cx} {E : XK} {k j : Nat} {ps : List Str} {x : Str} {p pos : Pos} {e o : Expr} {es : List Expr} {fs : MEnv → Sto → T (List MV)} {f : EM} {n : Nat}
theorem pm_defS {q : List D → R D} (G : HasDef X.prog X.w X.K X.mg X.base x ps j (spX X.K X.mg n q)) (hr : Room k X.A) (hj : j ≤ k) (hg : Gl X x) (hx : Passes (L2.CX X.prog X.w) X E) (ha : PMs X E (e :: es) fs) (hdb : (x == ("__debug__" : Str)) = false := by decide)
    (he : starEach (e :: es) X.env = (false, eval e X.env) :: starEach es X.env := by rfl) (hpl : (backTo pos (starEach es X.env)).any (·.1) = false := by rfl) : PM X E (.Call (.Name x p) (e :: es) [] pos) (xCallS (callF n q) fs) := by
  obtain ⟨f, fd, a, b, c, d⟩ := G
  refine pe_weak (pe_call b (hr.mono hj) hg a c d .nil hx ha hdb he hpl) fun σ H Q ⟨F, θ, ρ, μ, hp, en, fin⟩ => tGM_step hp en fin fun vs ms μ1 F1 H1 θ1 s1 hp1 en1 r1 fin1 => ?_
  obtain ⟨ds, rd, fin2⟩ := callS_run hp1 r1 fin1
  unfold callF at fin2
  by_cases hl : ds.length = n
  · rw [if_pos hl] at fin2
    rw [List.append_nil]
    exact ⟨H1, ds, hl, Same.refl H1, rd, fin2⟩
  · rw [if_neg hl] at fin2; exact fin2.elim
theorem pm_defSN {q : List D → R (List D)} (G : HasDef X.prog X.w X.K X.mg X.base x ps j (spN X.K X.mg n q)) (hr : Room k X.A) (hj : j ≤ k) (hg : Gl X x) (hx : Passes (L2.CX X.prog X.w) X E) (ha : PMs X E (e :: es) fs) (hdb : (x == ("__debug__" : Str)) = false := by decide)
    (he : starEach (e :: es) X.env = (false, eval e X.env) :: starEach es X.env := by rfl) (hpl : (backTo pos (starEach es X.env)).any (·.1) = false := by rfl) : PM X E (.Call (.Name x p) (e :: es) [] pos) (xCallSN (callF n q) fs) := by
  obtain ⟨f, fd, a, b, c, d⟩ := G
  refine pe_weak (pe_call b (hr.mono hj) hg a c d .nil hx ha hdb he hpl) fun σ H Q ⟨F, θ, ρ, μ, hp, en, fin⟩ => tGM_step hp en fin fun vs ms μ1 F1 H1 θ1 s1 hp1 en1 r1 fin1 => ?_
  obtain ⟨ds, rd, fin2⟩ := callSN_run hp1 r1 fin1
  unfold callF at fin2
  by_cases hl : ds.length = n
  · rw [if_pos hl] at fin2
    rw [List.append_nil]
    exact ⟨H1, ds, hl, Same.refl H1, rd, fin2⟩
  · rw [if_neg hl] at fin2; exact fin2.elim
theorem pm_defSC {q : List D → R (List D)} (G : HasDef X.prog X.w X.K X.mg X.base x ps j (spN X.K X.mg n q)) (hr : Room k X.A) (hj : j ≤ k) (hg : Gl X x) (hx : Passes (L2.CX X.prog X.w) X E) (ha : PMs X E (e :: es) fs) (hdb : (x == ("__debug__" : Str)) = false := by decide)
    (he : starEach (e :: es) X.env = (false, eval e X.env) :: starEach es X.env := by rfl) (hpl : (backTo pos (starEach es X.env)).any (·.1) = false := by rfl) : PM X E (.Call (.Name x p) (e :: es) [] pos) (xCallSC (callF n q) fs) := by
  obtain ⟨f, fd, a, b, c, d⟩ := G
  refine pe_weak (pe_call b (hr.mono hj) hg a c d .nil hx ha hdb he hpl) fun σ H Q ⟨F, θ, ρ, μ, hp, en, fin⟩ => tGM_step hp en fin fun vs ms μ1 F1 H1 θ1 s1 hp1 en1 r1 fin1 => ?_
  obtain ⟨ds, rd, fin2⟩ := callSC_run hp1 r1 fin1
  unfold callF at fin2
  by_cases hl : ds.length = n
  · rw [if_pos hl] at fin2
    rw [List.append_nil]
    exact ⟨H1, ds, hl, Same.refl H1, rd, fin2⟩
  · rw [if_neg hl] at fin2; exact fin2.elim
theorem pm_cbS {id : String} {r : List V → Hp → VK → Prop} {q : List D → R D} (hc : CallR X (.builtin id) r) (cd : CallD X E r q) (hg : Gl X x) (hm : X.mg x = none) (hv : bootBuiltins x = some (.builtin id)) (ha : PMs X E (e :: es) fs) (hn : x ≠ "__name__" := by decide) (hdb : (x == ("__debug__" : Str)) = false := by decide)
    (he : starEach (e :: es) X.env = (false, eval e X.env) :: starEach es X.env := by rfl) (hpl : (backTo pos (starEach es X.env)).any (·.1) = false := by rfl) : PM X E (.Call (.Name x p) (e :: es) [] pos) (xCallS q fs) :=
  pe_weak (pe_callB hc hg hm hv ha hn hdb he hpl) fun σ H Q ⟨F, θ, ρ, μ, hp, en, fin⟩ => tGM_step hp en fin fun vs ms μ1 F1 H1 θ1 s1 hp1 en1 r1 fin1 => by
    obtain ⟨ds, rd, fin2⟩ := callS_run hp1 r1 fin1
    exact cd H1 H1 vs ds Q (Same.refl H1) rd fin2
/-- the receiver of a pure method -/
theorem isIns_run {cn m : Str} {F H : Hp} {θ : List Addr} {μ : Sto} {v : V} {a : MV} {α β : Type} {Rl : Hp → List Addr → β → α → Prop} {Q : β → Hp → Prop} {g : Unit → Sto → T α} (hp : HeapM X.K X.mg F H θ μ) (rv : RvM X.K X.mg F θ v a) (fin : FinG X.K X.mg E Rl F H θ Q ((isIns cn m a μ).bind g)) : FinG X.K X.mg E Rl F H θ Q (g () μ) ∧ ∃ p C dx fl, v = .ref p ∧ H p = some (.ins C dx fl) ∧ X.mg cn = some (.ref C) ∧ fl.lookup m = none := by
  cases a with
  | hd i =>
    simp only [isIns] at fin
    split at fin
    · rename_i c ns ms hc
      obtain ⟨p, C', dx, fl, rfl, hpa, hH, hm', rfl, rr⟩ := hp.insAt hc rv
      by_cases hcs : c = cn ∧ m ∉ fl.map (·.1)
      · rw [if_pos hcs] at fin
        obtain ⟨rfl, hn⟩ := hcs
        exact ⟨fin, p, C', dx, fl, rfl, hH, hm', look_none hn⟩
      · rw [if_neg hcs] at fin; exact fin.elim
    · exact fin.elim
  | da d =>
    have rv : Rp X.K X.mg F v d := rv
    cases rv with
    | @obj p C' dx fl c ds hm' hF1 rr =>
      simp only [isIns, DL.isObj] at fin
      by_cases hcs : c = cn ∧ m ∉ fl.map (·.1)
      · rw [if_pos hcs] at fin
        obtain ⟨rfl, hn⟩ := hcs
        exact ⟨fin, p, C', dx, fl, rfl, hp.fh _ _ hF1, hm', look_none hn⟩
      · rw [if_neg hcs] at fin; exact fin.elim
    | _ => exact fin.elim
theorem pm_methS {cn m : Str} {q : List D → R D} {apos : Pos} {pl : Sem Bool} (G : HasMeth X.prog X.w X.K X.mg X.base cn m ps j (spX X.K X.mg n q)) (hr : Room k X.A) (hj : j ≤ k) (hx : Passes (L2.CX X.prog X.w) X E) (ho : PM X E o f) (ha : PMs X E (e :: es) fs)
    (hst : starEach (e :: es) X.env = (false, eval e X.env) :: starEach es X.env := by rfl) (hpl : (backTo pos (starEach es X.env)).any (·.1) = false := by rfl)
    (ht : eval (.Call (.Attribute o m apos) (e :: es) [] pos) X.env = (do
      let ov ← eval o X.env
      standAt apos.atName
      let (f, first) ← holding [ov] (getMethod ov m pl)
      callWith pos f first (backTo pos (starEach (e :: es) X.env)) (backToKw pos (keywordEach [] X.env))) := by rfl) :
    PM X E (.Call (.Attribute o m apos) (e :: es) [] pos) (xMethS cn m n q f fs) := by
  obtain ⟨C, fa, fd, hm, cl, me, Fn, bi⟩ := G
  refine pe_weak (pe_meth ho cl me Fn (hr.mono hj) bi .nil hx ha hst hpl ht) fun σ H Q ⟨F, θ, ρ, μ, hp, en, fin⟩ => tGM_step hp en fin fun v a μ1 F1 H1 θ1 s1 hp1 en1 r1 fin1 => ?_
  obtain ⟨fin2, p, C', dx, fl, rfl, hH, hm', hn⟩ := isIns_run hp1 r1 fin1
  rw [hm] at hm'
  cases hm'
  refine ⟨p, dx, fl, rfl, hH, hn, tGM_step hp1 en1 fin2 fun vs as μ2 F2 H2 θ2 s2 hp2 en2 r2 fin3 => ?_⟩
  obtain ⟨ds, rd, fin4⟩ := callS_run hp2 (.cons (r1.mono s2.f s2.p) r2) fin3
  unfold callF at fin4
  split at fin4
  · rename_i hl
    rw [List.append_nil]
    exact ⟨H2, ds, hl, Same.refl H2, rd, fin4⟩
  · exact fin4.elim
theorem pm_methS0 {cn m : Str} {q : List D → R D} {apos : Pos} {pl : Sem Bool} (G : HasMeth X.prog X.w X.K X.mg X.base cn m ps j (spX X.K X.mg n q)) (hr : Room k X.A) (hj : j ≤ k) (hx : Passes (L2.CX X.prog X.w) X E) (ho : PM X E o f)
    (ht : eval (.Call (.Attribute o m apos) [] [] pos) X.env = (do
      let ov ← eval o X.env
      standAt apos.atName
      let (f, first) ← holding [ov] (getMethod ov m pl)
      callWith pos f first (backTo pos (starEach [] X.env)) (backToKw pos (keywordEach [] X.env))) := by rfl) :
    PM X E (.Call (.Attribute o m apos) [] [] pos) (xMethS cn m n q f yNil) := by
  obtain ⟨C, fa, fd, hm, cl, me, Fn, bi⟩ := G
  refine pe_weak (pe_meth0 ho cl me Fn (hr.mono hj) bi .nil hx ht) fun σ H Q ⟨F, θ, ρ, μ, hp, en, fin⟩ => tGM_step hp en fin fun v a μ1 F1 H1 θ1 s1 hp1 en1 r1 fin1 => ?_
  obtain ⟨fin2, p, C', dx, fl, rfl, hH, hm', hn⟩ := isIns_run hp1 r1 fin1
  rw [hm] at hm'
  cases hm'
  refine ⟨p, dx, fl, rfl, hH, hn, ?_⟩
  obtain ⟨ds, rd, fin4⟩ := callS_run (ms := [a]) hp1 (.cons r1 .nil) fin2
  unfold callF at fin4
  split at fin4
  · rename_i hl
    exact ⟨H1, ds, hl, Same.refl H1, rd, fin4⟩
  · exact fin4.elim
end
end ML
/-! The store layer, E: evaluating meanings. -/
namespace ML
open PySem L2 DL
section
variable {ρ : MEnv} {μ : Sto} {f g : EM} {fs : MEnv → Sto → T (List MV)} {t u : MEnv → Sto → T Bool} {S U : SM}
@[simp] theorem ap_xF (f : DL.Env → R D) : xF f ρ μ = up (f (snE μ ρ)) μ fun d => if flatD d then .ok (.da d) μ else .bad := id rfl
@[simp] theorem ap_xH (f : DL.Env → R D) : xH f ρ μ = up (f (hdM ρ)) μ fun d => .ok (.da d) μ := id rfl
@[simp] theorem ap_xN (f : DL.Env → R (List D)) : xN f ρ μ = up (f (snE μ ρ)) μ fun ds => if ds.all flatD then .ok (.hd μ.length) (μ ++ [.lst (ds.map .da)]) else .bad := id rfl
@[simp] theorem ap_xNH (f : DL.Env → R (List D)) : xNH f ρ μ = up (f (hdM ρ)) μ fun ds => .ok (.hd μ.length) (μ ++ [.lst (ds.map .da)]) := id rfl
@[simp] theorem ap_xFN (f : DL.Env → R (List D)) : xFN f ρ μ = up (f (snE μ ρ)) μ fun ds => if ds.all flatD then .ok (.da (.lst ds)) μ else .bad := id rfl
@[simp] theorem xV_0 (m : MV) : xV 0 (some m :: ρ) μ = .ok m μ := id rfl
@[simp] theorem xV_s (i : Nat) (x : Option MV) : xV (i + 1) (x :: ρ) μ = xV i ρ μ := id rfl
@[simp] theorem ap_bF2 (t : DL.Env → R Bool) : bF2 t ρ μ = up (t (snE μ ρ)) μ fun b => .ok b μ := id rfl
@[simp] theorem ap_yNil : yNil ρ μ = .ok [] μ := id rfl
@[simp] theorem ap_yCons : yCons f fs ρ μ = (f ρ μ).bind fun a μ1 => (fs ρ μ1).bind fun as μ2 => .ok (a :: as) μ2 := id rfl
@[simp] theorem ap_xOp (o : D → D → R D) : xOp o f g ρ μ = (f ρ μ).bind fun a μ1 => (g ρ μ1).bind fun b μ2 => opM o a b μ2 := id rfl
@[simp] theorem opM_da (o : D → D → R D) (x y : D) : opM o (.da x) (.da y) μ = up (o x y) μ fun d => .ok (.da d) μ := id rfl
@[simp] theorem asBM_bl (b : Bool) : asBM (.da (.bl b)) μ = .ok b μ := id rfl
@[simp] theorem ap_bM : bM f ρ μ = (f ρ μ).bind asBM := id rfl
@[simp] theorem ap_bNot2 : bNot2 t ρ μ = (t ρ μ).bind fun b μ1 => .ok (!b) μ1 := id rfl
@[simp] theorem ap_bAnd2 : bAnd2 t u ρ μ = (t ρ μ).bind fun b μ1 => if b then u ρ μ1 else .ok false μ1 := id rfl
@[simp] theorem ap_bOr2 : bOr2 t u ρ μ = (t ρ μ).bind fun b μ1 => if b then .ok true μ1 else u ρ μ1 := id rfl
@[simp] theorem ap_xAnd : xAnd f g ρ μ = (f ρ μ).bind fun a μ1 => (asBM a μ1).bind fun b μ2 => if b then g ρ μ2 else .ok (.da (.bl false)) μ2 := id rfl
@[simp] theorem ap_xOr : xOr f g ρ μ = (f ρ μ).bind fun a μ1 => (asBM a μ1).bind fun b μ2 => if b then .ok (.da (.bl true)) μ2 else g ρ μ2 := id rfl
@[simp] theorem ap_xNot : xNot f ρ μ = (f ρ μ).bind fun a μ1 => (asBM a μ1).bind fun b μ2 => .ok (.da (.bl !b)) μ2 := id rfl
@[simp] theorem ap_xIf : xIf t f g ρ μ = (t ρ μ).bind fun b μ1 => if b then f ρ μ1 else g ρ μ1 := id rfl
@[simp] theorem ap_xTup : xTup fs ρ μ = (fs ρ μ).bind fun as μ1 => match dataOf as with
  | some ds => if ds.length ≤ 100000 then .ok (.da (.tup ds)) μ1 else .bad
  | none => .bad := id rfl
@[simp] theorem ap_xLst : xLst fs ρ μ = (fs ρ μ).bind fun as μ1 => if as.length ≤ 100000 then .ok (.hd μ1.length) (μ1 ++ [.lst as]) else .bad := id rfl
@[simp] theorem dataOf_nil : dataOf [] = some [] := id rfl
@[simp] theorem dataOf_cons (d : D) (r : List MV) : dataOf (.da d :: r) = (dataOf r).map fun ds => d :: ds := id rfl
@[simp] theorem ap_xCall (q : List MV → Sto → T MV) : xCall q fs ρ μ = (fs ρ μ).bind q := id rfl
@[simp] theorem ap_xCallP (o : List D → R D) : xCallP o fs ρ μ = (fs ρ μ).bind (callP o) := id rfl
@[simp] theorem ap_xCallS (o : List D → R D) : xCallS o fs ρ μ = (fs ρ μ).bind (callS o) := id rfl
@[simp] theorem ap_xFld (cs : List Str) (fl : Str) : xFld cs fl f ρ μ = (f ρ μ).bind (fldM cs fl) := id rfl
@[simp] theorem ap_xApp : xApp f g ρ μ = (f ρ μ).bind fun a μ1 => (isLst a μ1).bind fun _ μ2 => (g ρ μ2).bind fun m μ3 => appM a m μ3 := id rfl
@[simp] theorem ap_xPop : xPop f ρ μ = (f ρ μ).bind popM := id rfl
@[simp] theorem ap_xRev : xRev f ρ μ = (f ρ μ).bind revM := id rfl
@[simp] theorem ap_xMake (c : Str) (n : Nat) (q : List MV → Sto → T MV) : xMake c n q fs ρ μ = (fs ρ μ).bind fun as μ1 => if as.length + 1 = n then (q (.hd μ1.length :: as) (μ1 ++ [.ins c [] []])).bind (madeM μ1.length) else .bad := id rfl
@[simp] theorem madeM_non (i : Nat) : madeM i (.da .non) μ = .ok (.hd i) μ := id rfl
theorem callM_ok {α : Type} {n : Nat} {q : List MV → Sto → T α} {as : List MV} (h : as.length = n) : callM n q as μ = q as μ := if_pos h
@[simp] theorem callM_1 {α : Type} (q : List MV → Sto → T α) (a : MV) : callM 1 q [a] μ = q [a] μ := id rfl
@[simp] theorem callM_2 {α : Type} (q : List MV → Sto → T α) (a b : MV) : callM 2 q [a, b] μ = q [a, b] μ := id rfl
@[simp] theorem callM_3 {α : Type} (q : List MV → Sto → T α) (a b c : MV) : callM 3 q [a, b, c] μ = q [a, b, c] μ := id rfl
@[simp] theorem callM_4 {α : Type} (q : List MV → Sto → T α) (a b c d : MV) : callM 4 q [a, b, c, d] μ = q [a, b, c, d] μ := id rfl
@[simp] theorem ap_mNext : mNext ρ μ = .ok (.nx ρ) μ := id rfl
@[simp] theorem ap_mSeq : mSeq S U ρ μ = (S ρ μ).bind (thenM U) := id rfl
@[simp] theorem thenM_nx : thenM U (.nx ρ) μ = U ρ μ := id rfl
@[simp] theorem thenM_rt (m : MV) : thenM U (.rt m) μ = .ok (.rt m) μ := id rfl
@[simp] theorem thenM_bk : thenM U (.bk ρ) μ = .ok (.bk ρ) μ := id rfl
@[simp] theorem thenM_ct : thenM U (.ct ρ) μ = .ok (.ct ρ) μ := id rfl
@[simp] theorem ap_mIf : mIf t S U ρ μ = (t ρ μ).bind fun b μ1 => if b then S ρ μ1 else U ρ μ1 := id rfl
@[simp] theorem ap_mAsg (i : Nat) : mAsg i f ρ μ = (f ρ μ).bind fun m μ1 => .ok (.nx (ρ.set i (some m))) μ1 := id rfl
@[simp] theorem ap_mExpr : mExpr f ρ μ = (f ρ μ).bind fun _ μ1 => .ok (.nx ρ) μ1 := id rfl
@[simp] theorem ap_mRet : mRet f ρ μ = (f ρ μ).bind fun m μ1 => .ok (.rt m) μ1 := id rfl
@[simp] theorem ap_mRaise (c : Str) : mRaise c ρ μ = .err c μ := id rfl
@[simp] theorem ap_mBreak : mBreak ρ μ = .ok (.bk ρ) μ := id rfl
@[simp] theorem ap_mAug (i : Nat) (o : D → D → R D) : mAug i o f ρ μ = (xOp o (xV i) f ρ μ).bind fun m μ1 => .ok (.nx (ρ.set i (some m))) μ1 := id rfl
@[simp] theorem ap_mPar (is : List Nat) : mPar is fs ρ μ = (fs ρ μ).bind fun ms μ1 => if ms.length = is.length ∧ ms.length ≤ 1000 then .ok (.nx (setM ρ (is.zip ms))) μ1 else .bad := id rfl
@[simp] theorem setM_nil : setM ρ [] = ρ := id rfl
@[simp] theorem setM_cons (a : Nat × MV) (as : List (Nat × MV)) : setM ρ (a :: as) = setM (ρ.set a.1 (some a.2)) as := id rfl
@[simp] theorem ap_mUnp (tg : Tg) : mUnp tg f ρ μ = (f ρ μ).bind (unpM tg ρ) := id rfl
@[simp] theorem ap_mFor (it : DL.Env → R (List D)) (tg : Tg) : mFor it tg S ρ μ = up (it (hdM ρ)) μ fun ds => forM tg S ds ρ μ := id rfl
@[simp] theorem ap_mFld (cs : List Str) (fl : Str) (fo : EM) : mFld cs fl fo f ρ μ = (f ρ μ).bind fun m μ1 => (fo ρ μ1).bind fun a μ2 => (putM cs fl m a μ2).bind fun _ μ3 => .ok (.nx ρ) μ3 := id rfl
@[simp] theorem outM_rt (m : MV) : outM (.rt m) μ = .ok m μ := id rfl
@[simp] theorem outM_nx : outM (.nx ρ) μ = .ok (.da .non) μ := id rfl
@[simp] theorem afterM_nx (k : MEnv → Sto → T OutM) : afterM k (.nx ρ) μ = k ρ μ := id rfl
@[simp] theorem afterM_ct (k : MEnv → Sto → T OutM) : afterM k (.ct ρ) μ = k ρ μ := id rfl
@[simp] theorem afterM_bk (k : MEnv → Sto → T OutM) : afterM k (.bk ρ) μ = .ok (.nx ρ) μ := id rfl
@[simp] theorem afterM_rt (k : MEnv → Sto → T OutM) (m : MV) : afterM k (.rt m) μ = .ok (.rt m) μ := id rfl
theorem snE_cons (x : Option MV) : snE μ (x :: ρ) = x.bind (snap μ 3) :: snE μ ρ := rfl
@[simp] theorem snE_nil : snE μ [] = [] := id rfl
theorem hdM_cons (x : Option MV) : hdM (x :: ρ) = x.bind MV.fz :: hdM ρ := rfl
@[simp] theorem hdM_nil : hdM [] = [] := id rfl
@[simp] theorem snE_da (d : D) : snE μ (some (.da d) :: ρ) = some d :: snE μ ρ := by show (some (MV.da d)).bind (snap μ 3) :: snE μ ρ = _; simp [snap]
@[simp] theorem snE_no : snE μ (none :: ρ) = none :: snE μ ρ := id rfl
@[simp] theorem hdM_da (d : D) : hdM (some (.da d) :: ρ) = some d :: hdM ρ := id rfl
@[simp] theorem hdM_hd (i : Nat) : hdM (some (.hd i) :: ρ) = none :: hdM ρ := id rfl
@[simp] theorem hdM_no : hdM (none :: ρ) = none :: hdM ρ := id rfl
theorem snE_hd {i : Nat} {d : D} (h : snap μ 3 (.hd i) = some d) : snE μ (some (.hd i) :: ρ) = some d :: snE μ ρ := by rw [snE_cons]; simp [h]
theorem snap_da (k : Nat) (d : D) : snap μ k (.da d) = some d := by cases k <;> simp [snap]
theorem optAll_da (k : Nat) : ∀ ds : List D, optAll (snap μ k) (ds.map .da) = some ds
  | [] => rfl
  | d :: ds => by rw [List.map_cons, optAll, snap_da, optAll_da k ds]; rfl
theorem snap_lst {i k : Nat} {ds : List D} (h : μ[i]? = some (.lst (ds.map .da))) : snap μ (k + 1) (.hd i) = some (.lst ds) := by
  unfold snap; rw [h]; simp only [optAll_da]; rfl
theorem snap_ins {i k : Nat} {c : Str} {ns : List Str} {ms : List MV} {ds : List D} (h : μ[i]? = some (.ins c ns ms)) (hm : optAll (snap μ k) ms = some ds) : snap μ (k + 1) (.hd i) = some (.obj c ns ds) := by
  unfold snap; rw [h]; simp only [hm]; rfl
theorem forM_nil (tg : Tg) : forM tg S [] ρ μ = .ok (.nx ρ) μ := rfl
theorem forM_cons {tg : Tg} {d : D} {r : List D} {as : List (Nat × D)} (h : tgB tg d = some as) : forM tg S (d :: r) ρ μ = (S (setM ρ (as.map fun a => (a.1, .da a.2))) μ).bind (afterM (forM tg S r)) := by
  conv => lhs; unfold forM
  rw [h]
theorem forM_step {tg : Tg} {d : D} {r : List D} {as : List (Nat × D)} {ρ' : MEnv} {μ' : Sto} (h : tgB tg d = some as) (hs : S (setM ρ (as.map fun a => (a.1, .da a.2))) μ = .ok (.nx ρ') μ') : forM tg S (d :: r) ρ μ = forM tg S r ρ' μ' := by
  rw [forM_cons h, hs]; rfl
theorem callS_ok {o : List D → R D} {as : List MV} {ds : List D} (h : optAll (snap μ 3) as = some ds) : callS o as μ = up (o ds) μ fun d => flatK d μ := by unfold callS; rw [h]
@[simp] theorem flatK_bl (b : Bool) : flatK (.bl b) μ = .ok (.da (.bl b)) μ := id rfl
@[simp] theorem flatK_int (b : Int) : flatK (.int b) μ = .ok (.da (.int b)) μ := id rfl
@[simp] theorem flatK_non : flatK .non μ = .ok (.da .non) μ := id rfl
theorem get_end {α : Type} (l : List α) (x : α) (r : List α) : (l ++ x :: r)[l.length]? = some x := by
  rw [List.getElem?_append_right (Nat.le_refl _), Nat.sub_self]; rfl
theorem get_end1 {α : Type} (l : List α) (x y : α) (r : List α) : (l ++ x :: y :: r)[l.length + 1]? = some y := by
  rw [List.getElem?_append_right (by omega), show l.length + 1 - l.length = 1 by omega]; rfl
theorem set_end {α : Type} (l : List α) (x y : α) (r : List α) : (l ++ x :: r).set l.length y = l ++ y :: r := by
  rw [List.set_append_right _ _ (Nat.le_refl _), Nat.sub_self]; rfl
theorem set_end1 {α : Type} (l : List α) (x y z : α) (r : List α) : (l ++ x :: y :: r).set (l.length + 1) z = l ++ x :: z :: r := by
  rw [List.set_append_right _ _ (by omega), show l.length + 1 - l.length = 1 by omega]; rfl
end
end ML
/-! The store layer, 6: operators on snapshots; dicts; comprehensions whose items change the store; a pure def of one that uses a store of its own. -/
namespace ML
open PySem L2 DL
def opS (o : D → D → R D) (a b : MV) (μ : Sto) : T MV := match snap μ 3 a, snap μ 3 b with
  | some x, some y => up (o x y) μ fun d => flatK d μ
  | _, _ => .bad
def xOpS (o : D → D → R D) (f g : EM) : EM := fun ρ μ => (f ρ μ).bind fun a μ1 => (g ρ μ1).bind fun b μ2 => opS o a b μ2
/-! dicts: keys ints, or tuples of ints; values ints -/
def tupKey : D → Option (List Key)
  | .tup ds => (intsOf ds).map fun ns => ns.map Sum.inl
  | _ => none
def dGet (a k : MV) (μ : Sto) : T (Option V) := match a, k with
  | .hd i, .da d => match μ[i]? with
    | some (.raw (.dT kvs)) => match tupKey d with
      | some ks => .ok (valV kvs ks) μ
      | none => .bad
    | some (.raw (.dK kvs)) => match d with
      | .int z => .ok (valV kvs (.inl z)) μ
      | _ => .bad
    | _ => .bad
  | _, _ => .bad
def vInt (o : Option V) (μ : Sto) : T MV := match o with
  | some (.int i) => .ok (.da (.int i)) μ
  | _ => .bad
def xDGet (fd fk : EM) : EM := fun ρ μ => (fd ρ μ).bind fun a μ1 => (fk ρ μ1).bind fun k μ2 => (dGet a k μ2).bind vInt
def xDIn (fk fd : EM) : EM := fun ρ μ => (fk ρ μ).bind fun k μ1 => (fd ρ μ1).bind fun a μ2 => (dGet a k μ2).bind fun o μ3 => .ok (.da (.bl o.isSome)) μ3
def xDNotIn (fk fd : EM) : EM := fun ρ μ => (fk ρ μ).bind fun k μ1 => (fd ρ μ1).bind fun a μ2 => (dGet a k μ2).bind fun o μ3 => .ok (.da (.bl !o.isSome)) μ3
def dPut (a k m : MV) (μ : Sto) : T Unit := match a, k, m with
  | .hd i, .da d, .da (.int z) => match μ[i]? with
    | some (.raw (.dT kvs)) => match tupKey d with
      | some ks => if kvs.length < 100000 then .ok () (μ.set i (.raw (.dT (putK kvs ks (.int z))))) else .bad
      | none => .bad
    | some (.raw (.dK kvs)) => match d with
      | .int y => if kvs.length < 100000 then .ok () (μ.set i (.raw (.dK (putK kvs (.inl y) (.int z))))) else .bad
      | _ => .bad
    | _ => .bad
  | _, _, _ => .bad
def mDPut (fd fk f : EM) : SM := fun ρ μ => (f ρ μ).bind fun m μ1 => (fd ρ μ1).bind fun a μ2 => (fk ρ μ2).bind fun k μ3 => (dPut a k m μ3).bind fun _ μ4 => .ok (.nx ρ) μ4
def xDNewT : EM := fun _ μ => .ok (.hd μ.length) (μ ++ [.raw (.dT [])])
def xDNewK : EM := fun _ μ => .ok (.hd μ.length) (μ ++ [.raw (.dK [])])
/-! comprehensions -/
def wipeM (ρ : MEnv) : List Nat → MEnv
  | [] => ρ
  | v :: vs => (wipeM ρ vs).set v none
def noErrM {α β : Type} (t : T α) (g : α → Sto → T β) : T β := match t with
  | .ok a μ => g a μ
  | _ => .bad
def lcM (t : Tg) (te : EM) (ρ : MEnv) : List D → Sto → T (List MV)
  | [], μ => .ok [] μ
  | d :: r, μ => match tgB t d with
    | none => .bad
    | some as => noErrM (te (setM ρ (as.map fun a => (a.1, .da a.2))) μ) fun y μ1 => (lcM t te ρ r μ1).bind fun ys μ2 => .ok (y :: ys) μ2
def lcEnd (ms : List MV) (μ : Sto) : T MV := match dataOf ms with
  | some es => if es.all flatD then .ok (.da (.lst es)) μ else .bad
  | none => .bad
def xLcD (it : DL.Env → R (List D)) (t : Tg) (te : EM) (vs : List Nat) : EM := fun ρ μ => up (it (hdM ρ)) μ fun ds => if ds.length ≤ 100000 then (lcM t te (wipeM ρ vs) ds μ).bind lcEnd else .bad
section
variable {K : PySem.W.Frag} {mg : Str → Option Value} {E : XK} {F F1 H H1 : Hp} {θ : List Addr} {μ : Sto} {σ : L2.St} {ρ : MEnv}
theorem opS_run {X : Cx} {E : XK} {r : R2} {o : D → D → R D} (od : OpD X E r o) {F H : Hp} {θ : List Addr} {μ : Sto} {v w : V} {a b : MV} {Q : VK} (hp : HeapM X.K X.mg F H θ μ) (r1 : RvM X.K X.mg F θ v a) (r2 : RvM X.K X.mg F θ w b) (fin : FinG X.K X.mg E (RvM X.K X.mg) F H θ Q (opS o a b μ)) : r v w H Q := by
  unfold opS at fin
  split at fin
  · rename_i x y hx hy
    exact od H H v w x y Q (Same.refl H) (snap_rp hp 3 v a x r1 hx) (snap_rp hp 3 w b y r2 hy) (FinG.toFinS hp fin)
  · exact fin.elim
theorem HeapM.rawAt (hp : HeapM K mg F H θ μ) {i : Nat} {o : HO} (hc : μ[i]? = some (.raw o)) {v : V} (rv : RvM K mg F θ v (.hd i)) : ∃ a, v = .ref a ∧ θ[i]? = some a ∧ H a = some o := by
  obtain ⟨a, ha, rfl⟩ := rv
  obtain ⟨b, o', h1, h2, h3, h4⟩ := hp.cell i _ hc
  rw [ha] at h1
  cases h1
  cases h4 with
  | raw o => exact ⟨a, rfl, ha, h3⟩
theorem tupKey_run {v : V} {d : D} {ks : List Key} (hk : tupKey d = some ks) (rv : Rp K mg F v d) (fh : Same F H) : ∃ b, v = .ref b ∧ H b = some (.tup (ks.map kV)) := by
  cases d with
  | tup ds =>
    unfold tupKey at hk
    obtain ⟨ns, hn, rfl⟩ := Option.map_eq_some_iff.mp hk
    have e := intsOf_eq hn
    subst e
    cases rv with
    | tup h r =>
      have e := Rps.ints r
      subst e
      refine ⟨_, rfl, ?_⟩
      rw [fh _ _ h, List.map_map]
      rfl
  | _ => cases hk
theorem dGet_run {α β : Type} {Rl : Hp → List Addr → β → α → Prop} {Q : β → Hp → Prop} {g : Option V → Sto → T α} {v w : V} {a k : MV} (hp : HeapM K mg F H θ μ) (ra : RvM K mg F θ v a) (rk : RvM K mg F θ w k) (fin : FinG K mg E Rl F H θ Q ((dGet a k μ).bind g)) : ∃ p o, v = .ref p ∧ DGet H p w o ∧ FinG K mg E Rl F H θ Q (g o μ) := by
  unfold dGet at fin
  split at fin
  · rename_i i d
    split at fin
    · rename_i kvs hc
      obtain ⟨p, rfl, hp1, hH⟩ := hp.rawAt hc ra
      split at fin
      · rename_i ks hk
        obtain ⟨b, rfl, hb⟩ := tupKey_run hk rk hp.fh
        exact ⟨p, _, rfl, DGet.t hH hb, fin⟩
      · exact fin.elim
    · rename_i kvs hc
      obtain ⟨p, rfl, hp1, hH⟩ := hp.rawAt hc ra
      split at fin
      · cases rk
        exact ⟨p, _, rfl, DGet.k (k := .inl _) hH, fin⟩
      · exact fin.elim
    · exact fin.elim
  · exact fin.elim
theorem HeapM.other {p : Addr} {o : HO} (hp : HeapM K mg F H θ μ) (hn : p ∉ θ) (hF : F p = none) : HeapM K mg F (upd H p o) θ μ := ⟨same_upd2 hp.fh hF, hp.len, hp.nd, fun i c hc => by
  obtain ⟨a, o', h1, h2, h3, h4⟩ := hp.cell i c hc
  have : a ≠ p := fun z => hn (z ▸ List.mem_of_getElem? h1)
  exact ⟨a, o', h1, h2, by rw [upd_ne this]; exact h3, h4⟩⟩
theorem EnvM.wipe (h : EnvM K mg F θ σ ρ) : ∀ vs : List Nat, EnvM K mg F θ (L2.wipe σ vs) (wipeM ρ vs)
  | [] => h
  | v :: vs => (EnvM.wipe h vs).unset
theorem EnvM.setAll : ∀ {ws : List (Nat × V)} {as : List (Nat × D)} {σ : L2.St} {ρ : MEnv}, AsR K mg F ws as → EnvM K mg F θ σ ρ → EnvM K mg F θ (setV σ ws) (setM ρ (as.map fun a => (a.1, .da a.2)))
  | _, _, _, _, .nil, e => e
  | _, _, σ, ρ, .cons (i := i) (v := v) (d := d) (ws := ws) (as := as) h r, e => EnvM.setAll (σ := σ.set i (some v)) (ρ := ρ.set i (some (.da d))) r (e.set (m := .da d) h)
theorem lcM_err {t : Tg} {te : EM} {ρ : MEnv} : ∀ {ds : List D} {μ : Sto} {c : Str} {ν : Sto}, lcM t te ρ ds μ ≠ .err c ν
  | [], μ, c, ν, h => by cases h
  | d :: r, μ, c, ν, h => by
    unfold lcM at h
    cases ha : tgB t d with
    | none => rw [ha] at h; cases h
    | some as =>
      rw [ha] at h
      simp only at h
      cases ht : te (setM ρ (as.map fun a => (a.1, .da a.2))) μ with
      | bad => rw [ht] at h; cases h
      | err c μ1 => rw [ht] at h; cases h
      | ok y μ1 =>
        rw [ht] at h
        simp only [noErrM] at h
        cases hr : lcM t te ρ r μ1 with
        | bad => rw [hr] at h; cases h
        | err c μ2 => exact lcM_err (ds := r) hr
        | ok ys μ2 => rw [hr] at h; cases h
theorem lcM_ok {t : Tg} {te : EM} {ρ : MEnv} {d : D} {r : List D} {res : List MV} {μ ν : Sto} (h : lcM t te ρ (d :: r) μ = .ok res ν) : ∃ as, tgB t d = some as ∧ ∃ y μ1 ys, te (setM ρ (as.map fun a => (a.1, .da a.2))) μ = .ok y μ1 ∧ lcM t te ρ r μ1 = .ok ys ν ∧ res = y :: ys := by
  unfold lcM at h
  cases ha : tgB t d with
  | none => rw [ha] at h; cases h
  | some as =>
    rw [ha] at h
    refine ⟨as, rfl, ?_⟩
    simp only at h
    cases ht : te (setM ρ (as.map fun a => (a.1, .da a.2))) μ with
    | bad => rw [ht] at h; cases h
    | err c μ1 => rw [ht] at h; cases h
    | ok y μ1 =>
      rw [ht] at h
      simp only [noErrM] at h
      cases hr : lcM t te ρ r μ1 with
      | bad => rw [hr] at h; cases h
      | err c μ2 => rw [hr] at h; cases h
      | ok ys μ2 => rw [hr] at h; cases h; exact ⟨y, μ1, ys, rfl, hr, rfl⟩
theorem tM_lc {it : DL.Env → R (List D)} {t : Tg} {te : EM} {vs : List Nat} (hT : ∀ i ∈ t.ix, i ∈ vs) (σ : L2.St) (H : Hp) (Q : VK) (h : tM K mg E (xLcD it t te vs) σ H Q) :
    tLc (tXI K mg E it) (tG K mg t) (tXT K mg E0 bYes) (tM K mg E0 te) vs σ H Q := by
  obtain ⟨F, θ, ρ, μ, hp, en, fin⟩ := h
  refine ⟨F, hdM ρ, hp.fh, en.fz, ?_⟩
  unfold xLcD at fin
  cases hi : it (hdM ρ) with
  | bad => rw [hi] at fin; exact fin
  | err c => rw [hi] at fin; exact fun C H2 e m => fin C F H2 θ (StpM.ofSame θ e) (hp.grow e) m
  | ok ds =>
    rw [hi] at fin
    simp only [up_ok] at fin
    by_cases hl : ds.length ≤ 100000
    case neg => rw [if_neg hl] at fin; exact fin.elim
    rw [if_pos hl] at fin
    cases hg : lcM t te (wipeM ρ vs) ds μ with
    | bad => rw [hg] at fin; exact fin.elim
    | err c μ1 => exact absurd hg lcM_err
    | ok res μf =>
      rw [hg] at fin
      have fin : FinG K mg E (RvM K mg) F H θ Q (lcEnd res μf) := fin
      intro J F1 H1 s1 go Dn hD
      have hDF : F1 Dn = none := s1.fh.free hD
      have hDH : H Dn = none := s1.h.free hD
      have hp1 := hp.step s1
      have sM := StpM.ofStp θ s1
      refine ⟨fun i m H' => m = ds.length - i ∧ i ≤ ds.length ∧ ∃ F' θ' μ' acc outs rs, Same F1 F' ∧ StpM F H θ F' H' θ' ∧ HeapM K mg F' H' θ' μ' ∧ Dn ∉ θ' ∧ F' Dn = none ∧ H' Dn = some (.lst acc) ∧ RvMs K mg F' θ' acc outs ∧ lcM t te (wipeM ρ vs) (ds.drop i) μ' = .ok rs μf ∧ outs ++ rs = res ∧ outs.length ≤ i,
        ⟨ds.length, by simp, Nat.zero_le _, F1, θ, μ, [], [], res, Same.refl F1, sM.trans (StpM.ofSame θ (same_upd hD)), hp1.grow (same_upd hD), hp1.notIn hD, hDF, upd_same, .nil, hg, rfl, Nat.le_refl _⟩, ?_⟩
      rintro i m H' ⟨rfl, hi', F', θ', μ', acc, outs, rs, f1, st, hp', nD, fD, hH, ra, hgo, hres, hlen⟩
      obtain ⟨g1, g2⟩ := go i F' H' f1 hp'.fh
      by_cases hlt : i < ds.length
      · right
        have hd : ds[i]? = some ds[i] := List.getElem?_eq_getElem hlt
        obtain ⟨hgo1, hyld⟩ := g2 _ hd
        refine ⟨hgo1, fun H2 => ∃ F' θ' μ' acc outs rs, Same F1 F' ∧ StpM F H θ F' H2 θ' ∧ HeapM K mg F' H2 θ' μ' ∧ Dn ∉ θ' ∧ F' Dn = none ∧ H2 Dn = some (.lst acc) ∧ RvMs K mg F' θ' acc outs ∧ lcM t te (wipeM ρ vs) (ds.drop (i + 1)) μ' = .ok rs μf ∧ outs ++ rs = res ∧ outs.length ≤ i + 1, fun H2 hN => ⟨ds.length - (i + 1), by omega, rfl, hlt, hN⟩, fun x H2 hy => ?_⟩
        obtain ⟨F2, s2, r2⟩ := hyld x H2 hy
        rw [List.drop_eq_getElem_cons hlt] at hgo
        obtain ⟨as, ha, y, μ4, ys, hy', hr, rfl⟩ := lcM_ok hgo
        refine ⟨F2, ds[i], as, s2.fh, r2, ha, fun ws hw => ?_⟩
        have hix : ∀ j ∈ ws.map (·.1), j ∈ vs := by
          rw [hw.ix, tgB_ix ha]
          exact hT
        refine ⟨by rw [wipe_setV hix, wipe_wipe σ vs vs fun u hu => hu], ?_⟩
        have hp2 := hp'.step s2
        have st2 : StpM F H θ F2 H2 θ' := st.trans (StpM.ofStp θ' s2)
        have en2 : EnvM K mg F2 θ' (setV (L2.wipe σ vs) ws) (setM (wipeM ρ vs) (as.map fun a => (a.1, .da a.2))) := EnvM.setAll hw ((en.mono st2.f st2.p).wipe vs)
        have eD : H2 Dn = some (.lst acc) := s2.h _ _ hH
        have fD2 : F2 Dn = none := (s2.old Dn (by rw [hH]; exact fun z => nomatch z)).trans fD
        refine ⟨H2, snE μ' (setM (wipeM ρ vs) (as.map fun a => (a.1, .da a.2))), Same.refl H2, en2.snap hp2, ?_⟩
        intro F3 H3 s3
        rw [if_pos rfl]
        have hp3 := hp2.grow s3.h
        refine ⟨F2, θ', _, μ', hp3, en2, ?_⟩
        rw [hy']
        intro v F4 H4 θ4 s4 hp4 r4
        have eD3 : H3 Dn = some (.lst acc) := s3.h _ _ eD
        have eD4 : H4 Dn = some (.lst acc) := s4.keep _ _ eD3 nD
        have fD4 : F4 Dn = none := (s4.old Dn (by rw [eD3]; exact fun z => nomatch z)).trans fD2
        have nD4 : Dn ∉ θ4 := by
          obtain ⟨new, e, hn⟩ := s4.pre
          rw [e, List.mem_append, not_or]
          exact ⟨nD, fun z => by rw [hn Dn z] at eD3; cases eD3⟩
        have st4 : StpM F H θ F4 H4 θ4 := (st2.trans (StpM.ofSame θ' s3.h)).trans s4
        refine ⟨acc, eD4, ?_, F4, θ4, μ4, acc ++ [v], outs ++ [y], ys, f1.trans (s2.f.trans s4.f), ?_, hp4.other nD4 fD4, nD4, fD4, upd_same, ((ra.mono (s2.f.trans s4.f) s4.p).append (.cons r4 .nil)), hr, by rw [List.append_assoc]; exact hres, by rw [List.length_append]; exact Nat.succ_le_succ hlen⟩
        · rw [ra.length]
          exact Nat.lt_of_le_of_lt hlen (Nat.lt_of_lt_of_le hlt (sz hl))
        · refine ⟨st4.f, st4.pre, st4.old, fun a o h hn => ?_, fun a h => ?_⟩
          · rw [upd_ne (ne_of_none h hDH)]
            exact st4.keep a o h hn
          · by_cases e : a = Dn
            · subst e; rw [upd_same]; exact fun z => nomatch z
            · rw [upd_ne e]; exact st4.live a h
      · left
        have e : i = ds.length := by omega
        subst e
        rw [List.drop_length] at hgo
        cases hgo
        rw [List.append_nil] at hres
        subst hres
        refine ⟨g1 (Nat.le_refl _), ?_⟩
        unfold lcEnd at fin
        split at fin
        · rename_i es hes
          by_cases hf : es.all flatD = true
          · rw [if_pos hf] at fin
            refine fin (.ref Dn) (upd F' Dn (.lst acc)) H' θ' ⟨st.f.trans (same_upd fD), st.pre, fun a h => (upd_ne (show a ≠ Dn from fun z => h (z ▸ hDH))).trans (st.old a h), st.keep, st.live⟩ (hp'.freeze nD fD hH) (.lst upd_same ((dataOf_rps hes ra).flatAny hf))
          · rw [if_neg hf] at fin; exact fin.elim
        · exact fin.elim
end
section
variable {X : Cx} {E : XK} {a b c e o : Expr} {es : List Expr} {f g fd fk : EM} {pos : Pos}
theorem tM_opS {r : R2} {o : D → D → R D} (od : OpD X E r o) (σ : L2.St) (H : Hp) (Q : VK) (h : tM X.K X.mg E (xOpS o f g) σ H Q) : tOp r (tM X.K X.mg E f) (tM X.K X.mg E g) σ H Q := by
  obtain ⟨F, θ, ρ, μ, hp, en, fin⟩ := h
  exact tGM_step hp en fin fun v m μ1 F1 H1 θ1 s1 hp1 en1 r1 fin1 => tGM_step hp1 en1 fin1 fun w n μ2 F2 H2 θ2 s2 hp2 en2 r2 fin2 => opS_run od hp2 (r1.mono s2.f s2.p) r2 fin2
theorem pm_binS {op : Operator} {r : R2} {o : D → D → R D} (ho : OpR X (binaryOp op) r) (od : OpD X E r o) (ha : PM X E a f) (hb : PM X E b g) : PM X E (.BinOp a op b pos) (xOpS o f g) := pe_weak (pe_op ho ha hb) fun σ H Q h => tM_opS od σ H Q h
theorem pm_cmpS {op : CmpOp} {r : R2} {o : D → D → R D} (ho : OpR X (compareOp op) r) (od : OpD X E r o) (ha : PM X E a f) (hb : PM X E b g) (hm : behindInMarks op b = false) : PM X E (.Compare a [op] [b] pos) (xOpS o f g) := pe_weak (pe_cmpR ho ha hb hm) fun σ H Q h => tM_opS od σ H Q h
theorem pmt_cmpS {op : CmpOp} {r : R2} {o : D → D → R D} (ho : OpR X (compareOp op) r) (od : OpD X E r o) (ha : PM X E a f) (hb : PM X E b g) (hm : behindInMarks op b = false) : PMT X E (.Compare a [op] [b] pos) (bM (xOpS o f g)) :=
  pt_weak (pt_cmpR ho ha hb hm) fun σ H Q h => tM_opS od σ H _ (tM_test σ H Q h)
theorem pm_dnewT : PM X E (.Dict [] [] pos) xDNewT := pe_weak pe_dnewT fun σ H Q ⟨F, θ, ρ, μ, hp, en, fin⟩ p hn => by
  refine fin (.ref p) F _ (θ ++ [p]) (StpM.snoc (same_upd hn) hn) ((hp.grow (same_upd hn)).snoc (hp.notIn hn) (hp.fh.free hn) upd_same (.raw _)) ⟨p, ?_, rfl⟩
  rw [← hp.len, List.getElem?_append_right (Nat.le_refl _), Nat.sub_self]
  rfl
theorem pm_dnewK : PM X E (.Dict [] [] pos) xDNewK := pe_weak pe_dnewK fun σ H Q ⟨F, θ, ρ, μ, hp, en, fin⟩ p hn => by
  refine fin (.ref p) F _ (θ ++ [p]) (StpM.snoc (same_upd hn) hn) ((hp.grow (same_upd hn)).snoc (hp.notIn hn) (hp.fh.free hn) upd_same (.raw _)) ⟨p, ?_, rfl⟩
  rw [← hp.len, List.getElem?_append_right (Nat.le_refl _), Nat.sub_self]
  rfl
theorem pm_dget (hu : X.A.units + 1 < cLine) (ho : PM X E a fd) (hi : PM X E b fk) (hs : NoSl b) : PM X E (.Subscript a b pos) (xDGet fd fk) := pe_weak (pe_dget hu ho hi hs) fun σ H Q ⟨F, θ, ρ, μ, hp, en, fin⟩ =>
  tGM_step hp en fin fun v m μ1 F1 H1 θ1 s1 hp1 en1 r1 fin1 => tGM_step hp1 en1 fin1 fun w n μ2 F2 H2 θ2 s2 hp2 en2 r2 fin2 => by
    obtain ⟨p, o, rfl, dg, fin3⟩ := dGet_run hp2 (r1.mono s2.f s2.p) r2 fin2
    unfold vInt at fin3
    split at fin3
    · rename_i i
      exact ⟨p, .int i, rfl, dg, fin3 _ F2 H2 θ2 (StpM.refl _ _ _) hp2 (.int i)⟩
    · exact fin3.elim
theorem tM_din (σ : L2.St) (H : Hp) (Q : VK) (h : tM X.K X.mg E (xDIn fk fd) σ H Q) : tDIn (tM X.K X.mg E fk) (tM X.K X.mg E fd) σ H Q := by
  obtain ⟨F, θ, ρ, μ, hp, en, fin⟩ := h
  exact tGM_step hp en fin fun v m μ1 F1 H1 θ1 s1 hp1 en1 r1 fin1 => tGM_step hp1 en1 fin1 fun w n μ2 F2 H2 θ2 s2 hp2 en2 r2 fin2 => by
    obtain ⟨p, o, rfl, dg, fin3⟩ := dGet_run hp2 r2 (r1.mono s2.f s2.p) fin2
    exact ⟨p, o, rfl, dg, fin3 _ F2 H2 θ2 (StpM.refl _ _ _) hp2 (.bl _)⟩
theorem tM_dnotin (σ : L2.St) (H : Hp) (Q : VK) (h : tM X.K X.mg E (xDNotIn fk fd) σ H Q) : tDNotIn (tM X.K X.mg E fk) (tM X.K X.mg E fd) σ H Q := by
  obtain ⟨F, θ, ρ, μ, hp, en, fin⟩ := h
  exact tGM_step hp en fin fun v m μ1 F1 H1 θ1 s1 hp1 en1 r1 fin1 => tGM_step hp1 en1 fin1 fun w n μ2 F2 H2 θ2 s2 hp2 en2 r2 fin2 => by
    obtain ⟨p, o, rfl, dg, fin3⟩ := dGet_run hp2 r2 (r1.mono s2.f s2.p) fin2
    exact ⟨p, o, rfl, dg, fin3 _ F2 H2 θ2 (StpM.refl _ _ _) hp2 (.bl _)⟩
theorem pmt_din (hu : X.A.units + 1 < cLine) (hi : PM X E a fk) (ho : PM X E b fd) (hm : behindInMarks .In b = false := by rfl) : PMT X E (.Compare a [.In] [b] pos) (bM (xDIn fk fd)) := pt_weak (pt_cmp (pc_din hu hi ho) hm) fun σ H Q h => tM_din σ H _ (tM_test σ H Q h)
theorem pmt_dnotin (hu : X.A.units + 1 < cLine) (hi : PM X E a fk) (ho : PM X E b fd) (hm : behindInMarks .NotIn b = false := by rfl) : PMT X E (.Compare a [.NotIn] [b] pos) (bM (xDNotIn fk fd)) := pt_weak (pt_cmp (pc_dnotin hu hi ho) hm) fun σ H Q h => tM_dnotin σ H _ (tM_test σ H Q h)
theorem ms_dput {pos' : Pos} (hu : X.A.units + 1 < cLine) (ho : PM X E a fd) (hi : PM X E b fk) (hv : PM X E e f) (hs : swapsWith e (some (.Subscript a b pos')) pos.line X.env = pure false := by rfl) : PMS X E (.Assign [.Subscript a b pos'] e pos) (mDPut fd fk f) :=
  ps_weak (ps_dput hu ho hi hv hs) fun Dn σ H ⟨He, Fe, θe, F, θ, ρ, μ, r, fin⟩ => r.eval fin fun v m μ1 F1 H1 θ1 r1 s1 rv fin1 => r1.eval fin1 fun w a μ2 F2 H2 θ2 r2 s2 ra fin2 => r2.eval fin2 fun u k μ3 F3 H3 θ3 r3 s3 rk fin3 => by
    unfold dPut at fin3
    split at fin3
    · rename_i i d z
      have rv3 := (rv.mono s2.f s2.p).mono s3.f s3.p
      cases rv3
      split at fin3
      · rename_i kvs hc
        obtain ⟨p, rfl, hpt, hH⟩ := r3.hp.rawAt hc (ra.mono s3.f s3.p)
        split at fin3
        · rename_i ks hk
          obtain ⟨bb, rfl, hb⟩ := tupKey_run hk rk r3.hp.fh
          by_cases hl : kvs.length < 100000
          · rw [if_pos hl] at fin3
            exact ⟨p, _, rfl, DPut.t hH hb (Nat.lt_of_lt_of_le hl (by decide)), fin3 F3 θ3 σ _ (r3.write hpt (.raw _))⟩
          · rw [if_neg hl] at fin3; exact fin3.elim
        · exact fin3.elim
      · rename_i kvs hc
        obtain ⟨p, rfl, hpt, hH⟩ := r3.hp.rawAt hc (ra.mono s3.f s3.p)
        split at fin3
        · by_cases hl : kvs.length < 100000
          · rw [if_pos hl] at fin3
            cases rk
            exact ⟨p, _, rfl, DPut.k (k := .inl _) hH (Nat.lt_of_lt_of_le hl (by decide)), fin3 F3 θ3 σ _ (r3.write hpt (.raw _))⟩
          · rw [if_neg hl] at fin3; exact fin3.elim
        · exact fin3.elim
      · exact fin3.elim
    · exact fin3.elim
theorem pm_lc {elt tg iter : Expr} {scope : Scope} {own : List (Str × Nat)} {pos : Pos} {it : DL.Env → R (List D)} {t : Tg} {te : EM} (hc : X.calm = true) (hN : X.N.Nodup) (hi : PXI X E tg iter it) (ok : BlkOk X.N X.env.scope scope own)
    (hg : ∀ (s : Shared) (H : Hp) (C : Addr) (cl : List (Str × Addr)) (fp : List Addr), PXG (X.blk s H scope (compEnvC scope cl C X.env) fp) tg t)
    (he : ∀ (s : Shared) (H : Hp) (C : Addr) (cl : List (Str × Addr)) (fp : List Addr), PM (X.blk s H scope (compEnvC scope cl C X.env) fp) E0 elt te) (hT : ∀ i ∈ t.ix, i ∈ own.map (·.2) := by decide) (hs : ∀ x, foldedSetIterable iter X.env x = pure x := by intro _; rfl) :
    PM X E (.ListComp elt [⟨tg, iter, [], 0⟩] scope pos) (xLcD it t te (own.map (·.2))) :=
  pe_weak (pe_lc hc hN hi ok hg (fun _ _ _ _ _ => pxts_nil (E := E0)) he hs) fun σ H Q h => tM_lc hT σ H Q h
end
/-! ### a pure def of one that uses a store of its own -/
def purX (q : List MV → Sto → T MV) : List D → R D := fun ds => match q (ds.map .da) [] with
  | .ok m μ => (match snap μ 3 m with | some d => .ok d | none => .bad)
  | .err c _ => .err c
  | .bad => .bad
def purN (q : List MV → Sto → T MV) : List D → R (List D) := fun ds => match q (ds.map .da) [] with
  | .ok (.hd i) μ => (match μ[i]? with | some (.lst ms) => (match dataOf ms with | some es => .ok es | none => .bad) | _ => .bad)
  | .ok _ _ => .bad
  | .err c _ => .err c
  | .bad => .bad
section
variable {P : Program} {w : World} {K : PySem.W.Frag} {mg : Str → Option Value} {base : Heap}
theorem snap_rpG {F G : Hp} {θ : List Addr} {μ : Sto} (fg : Same F G) (hc : ∀ (i : Nat) c, μ[i]? = some c → ∃ a o, θ[i]? = some a ∧ G a = some o ∧ RoM K mg F θ o c) : ∀ (k : Nat) (v : V) (m : MV) (d : D), RvM K mg F θ v m → snap μ k m = some d → Rp K mg G v d
  | 0, v, .da d, d', r, e => by
    unfold snap at e; cases e; exact Rp.mono fg r
  | k + 1, v, .da d, d', r, e => by
    unfold snap at e; cases e; exact Rp.mono fg r
  | 0, v, .hd i, d, r, e => by unfold snap at e; cases e
  | k + 1, v, .hd i, d, r, e => by
    obtain ⟨a, ha, rfl⟩ := r
    unfold snap at e
    cases hq : μ[i]? with
    | none => rw [hq] at e; cases e
    | some c =>
      rw [hq] at e
      obtain ⟨b, o, h1, h3, h4⟩ := hc i c hq
      rw [ha] at h1
      cases h1
      cases h4 with
      | lst rr =>
        obtain ⟨ds, hb, rfl⟩ := Option.map_eq_some_iff.mp e
        exact .lst h3 (snaps_rp (snap_rpG fg hc k) rr hb)
      | ins hm rr =>
        obtain ⟨ds, hb, rfl⟩ := Option.map_eq_some_iff.mp e
        exact .obj hm h3 (snaps_rp (snap_rpG fg hc k) rr hb)
      | raw o => cases e
theorem pur_stp {F H F2 H2 : Hp} {θ2 : List Addr} {μ : Sto} (s : StpM F H [] F2 H2 θ2) (hp : HeapM K mg F2 H2 θ2 μ) : Stp F H F2 H2 := ⟨fun a o h => s.keep a o h (by simp), s.f, hp.fh, s.old⟩
theorem spM.toX {n : Nat} {q : List MV → Sto → T MV} (vs : List V) (H : Hp) (Q : VK) (E : XK) (h : spX K mg n (purX q) vs H Q E) : spM K mg n q vs H Q E := by
  obtain ⟨F, ds, hl, fh, r, fin⟩ := h
  refine ⟨F, [], ds.map .da, [], by simpa using hl, ⟨fh, rfl, .nil, fun i c h => by simp at h⟩, .ofRps r, ?_⟩
  unfold purX at fin
  cases hq : q (ds.map .da) [] with
  | bad => rw [hq] at fin; exact fin
  | err c μ =>
    rw [hq] at fin
    exact fun C F2 H2 θ2 s hp m => fin C H2 (pur_stp s hp).h m
  | ok m μ =>
    rw [hq] at fin
    simp only at fin
    intro v F2 H2 θ2 s hp rv
    cases hs : snap μ 3 m with
    | none => rw [hs] at fin; exact fin.elim
    | some d =>
      rw [hs] at fin
      have st := pur_stp s hp
      obtain ⟨new, e, hn⟩ := s.pre
      rw [List.nil_append] at e
      subst e
      have inT : ∀ a, a ∈ θ2 → H2 a ≠ none ∧ F2 a = none := fun a ha => by
        obtain ⟨h1, o, h2⟩ := hp.inTh ha
        refine ⟨?_, h1⟩
        rw [h2]
        exact fun z => nomatch z
      let G : Hp := fun a => if a ∈ θ2 then H2 a else F2 a
      have fg : Same F2 G := fun a o h => by
        show (if a ∈ θ2 then H2 a else F2 a) = some o
        by_cases ha : a ∈ θ2
        · rw [(inT a ha).2] at h; cases h
        · rw [if_neg ha]; exact h
      have gh : Same G H2 := fun a o h => by
        have h : (if a ∈ θ2 then H2 a else F2 a) = some o := h
        by_cases ha : a ∈ θ2
        · rw [if_pos ha] at h; exact h
        · rw [if_neg ha] at h; exact hp.fh a o h
      refine fin v G H2 ⟨st.h, st.f.trans fg, gh, fun a ha => ?_⟩ (snap_rpG fg (fun i c hc => ?_) 3 v m d rv hs)
      · show (if a ∈ θ2 then H2 a else F2 a) = F a
        rw [if_neg (fun z => ha (hn a z))]
        exact st.old a ha
      · obtain ⟨a, o, h1, h2, h3, h4⟩ := hp.cell i c hc
        refine ⟨a, o, h1, ?_, h4⟩
        show (if a ∈ θ2 then H2 a else F2 a) = some o
        rw [if_pos (List.mem_of_getElem? h1)]
        exact h3
theorem spM.toN {n : Nat} {q : List MV → Sto → T MV} (vs : List V) (H : Hp) (Q : VK) (E : XK) (h : spN K mg n (purN q) vs H Q E) : spM K mg n q vs H Q E := by
  obtain ⟨F, ds, hl, fh, r, fin⟩ := h
  refine ⟨F, [], ds.map .da, [], by simpa using hl, ⟨fh, rfl, .nil, fun i c h => by simp at h⟩, .ofRps r, ?_⟩
  unfold purN at fin
  cases hq : q (ds.map .da) [] with
  | bad => rw [hq] at fin; exact fin
  | err c μ =>
    rw [hq] at fin
    exact fun C F2 H2 θ2 s hp m => fin C H2 (pur_stp s hp).h m
  | ok m μ =>
    rw [hq] at fin
    cases m with
    | da d => exact fin.elim
    | hd i =>
      simp only at fin
      intro v F2 H2 θ2 s hp rv
      split at fin
      · rename_i ms hc
        obtain ⟨p, xs, rfl, hpt, hH, rr⟩ := hp.lstAt hc rv
        split at fin
        · rename_i es hes
          obtain ⟨new, e, hn⟩ := s.pre
          rw [List.nil_append] at e
          subst e
          have hm := List.mem_of_getElem? hpt
          exact fin p xs F2 H2 (pur_stp s hp) (hn p hm) (hp.inTh hm).1 hH (dataOf_rps hes rr)
        · exact fin.elim
      · exact fin.elim
theorem HasDef.purX {x : Str} {ps : List Str} {k n : Nat} {q : List MV → Sto → T MV} (h : HasDef P w K mg base x ps k (spM K mg n q)) : HasDef P w K mg base x ps k (spX K mg n (ML.purX q)) := DL.HasDef.imp h spM.toX
theorem HasDef.purN {x : Str} {ps : List Str} {k n : Nat} {q : List MV → Sto → T MV} (h : HasDef P w K mg base x ps k (spM K mg n q)) : HasDef P w K mg base x ps k (spN K mg n (ML.purN q)) := DL.HasDef.imp h spM.toN
end
theorem hd_bad {P : Program} {w : World} {K : PySem.W.Frag} {mg : Str → Option Value} {base : Heap} {x : Str} {st : Stmt} {N ps : List Str} {k n : Nat} (at_ : At K mg x st) (sc : FnScope N ps (defScope st))
    (hbd : ∀ (kV doc pm : Value) (an : Option Addr) (cdv ct : Value) (us : List Value), us.length = ps.length → bindArgs (PySem.W.fnOf x x (defArgs st) (defBody st) (defScope st) .none kV doc pm an cdv ct) ⟨us, []⟩ = pure (ps.zip us)) :
    HasDef P w K mg base x ps k (spM K mg n fun _ _ => .bad) := by
  obtain ⟨f, fd, hm, Fu⟩ := at_
  exact ⟨f, fd, hm, ⟨fun vs H Q E h => by obtain ⟨_, _, _, _, _, _, _, z⟩ := h; exact z.elim, fun A outer s H args us vs Q E _ _ _ _ h => by obtain ⟨_, _, _, _, _, _, _, z⟩ := h; exact z.elim⟩, Fu.kp, Fu.binds hbd⟩
end ML
theorem L2.Room.units1 {k : Nat} {A : PySem.Around} (r : L2.Room k A) : A.units + 1 < PySem.cLine := L2.hu_of r
/-! The store layer, F: evaluating what ML6 brings. -/
namespace ML
open PySem L2 DL
section
variable {ρ : MEnv} {μ : Sto} {f g fd fk : EM} {fs : MEnv → Sto → T (List MV)}
@[simp] theorem ap_xOpS (o : D → D → R D) : xOpS o f g ρ μ = (f ρ μ).bind fun a μ1 => (g ρ μ1).bind fun b μ2 => opS o a b μ2 := id rfl
theorem opS_ok {o : D → D → R D} {a b : MV} {x y : D} (h1 : snap μ 3 a = some x) (h2 : snap μ 3 b = some y) : opS o a b μ = up (o x y) μ fun d => flatK d μ := by unfold opS; rw [h1, h2]
@[simp] theorem opS_da (o : D → D → R D) (x y : D) : opS o (.da x) (.da y) μ = up (o x y) μ fun d => flatK d μ := opS_ok (snap_da 3 x) (snap_da 3 y)
@[simp] theorem ap_xDGet : xDGet fd fk ρ μ = (fd ρ μ).bind fun a μ1 => (fk ρ μ1).bind fun k μ2 => (dGet a k μ2).bind vInt := id rfl
@[simp] theorem ap_xDNotIn : xDNotIn fk fd ρ μ = (fk ρ μ).bind fun k μ1 => (fd ρ μ1).bind fun a μ2 => (dGet a k μ2).bind fun o μ3 => .ok (.da (.bl !o.isSome)) μ3 := id rfl
@[simp] theorem vInt_some (i : Int) : vInt (some (.int i)) μ = .ok (.da (.int i)) μ := id rfl
@[simp] theorem ap_mDPut : mDPut fd fk f ρ μ = (f ρ μ).bind fun m μ1 => (fd ρ μ1).bind fun a μ2 => (fk ρ μ2).bind fun k μ3 => (dPut a k m μ3).bind fun _ μ4 => .ok (.nx ρ) μ4 := id rfl
@[simp] theorem ap_xDNewT : xDNewT ρ μ = .ok (.hd μ.length) (μ ++ [.raw (.dT [])]) := id rfl
@[simp] theorem ap_xDNewK : xDNewK ρ μ = .ok (.hd μ.length) (μ ++ [.raw (.dK [])]) := id rfl
@[simp] theorem ap_xLcD (it : DL.Env → R (List D)) (t : Tg) (te : EM) (vs : List Nat) : xLcD it t te vs ρ μ = up (it (hdM ρ)) μ fun ds => if ds.length ≤ 100000 then (lcM t te (wipeM ρ vs) ds μ).bind lcEnd else .bad := id rfl
@[simp] theorem wipeM_nil : wipeM ρ [] = ρ := id rfl
@[simp] theorem wipeM_cons (v : Nat) (vs : List Nat) : wipeM ρ (v :: vs) = (wipeM ρ vs).set v none := id rfl
@[simp] theorem ap_xCallSN (o : List D → R (List D)) : xCallSN o fs ρ μ = (fs ρ μ).bind (callSN o) := id rfl
@[simp] theorem ap_xMethS (c m : Str) (n : Nat) (q : List D → R D) : xMethS c m n q f fs ρ μ = (f ρ μ).bind fun a μ1 => (isIns c m a μ1).bind fun _ μ2 => (fs ρ μ2).bind fun as μ3 => callS (callF n q) (a :: as) μ3 := id rfl
theorem callSN_ok {o : List D → R (List D)} {as : List MV} {ds : List D} (h : optAll (snap μ 3) as = some ds) : callSN o as μ = up (o ds) μ fun es => if es.all flatD then .ok (.da (.lst es)) μ else .bad := by unfold callSN; rw [h]
theorem lcEnd_ints (ns : List Int) : lcEnd ((ns.map D.int).map .da) μ = .ok (.da (.lst (ns.map D.int))) μ := by
  unfold lcEnd
  rw [dataOf_map]
  simp
/-- a comprehension that leaves the store as it is -/
theorem lcM_pure {j : Nat} {te : EM} (h : Int → Int) : ∀ (xs : List Int), (∀ x ∈ xs, te (ρ.set j (some (.da (.int x)))) μ = .ok (.da (.int (h x))) μ) → lcM (.nm j) te ρ (xs.map D.int) μ = .ok (((xs.map h).map D.int).map .da) μ
  | [], _ => rfl
  | x :: xs, hx => by
    have ih := lcM_pure h xs fun y hy => hx y (List.mem_cons_of_mem _ hy)
    have h1 := hx x List.mem_cons_self
    rw [List.map_cons, lcM]
    simp only [ap_tgNm, List.map_cons, List.map_nil, setM_cons, setM_nil, h1, noErrM, ih, T.bind_ok]
end
end ML
/-! The store layer, 7: for over a list that an expression of the store layer gives as data. -/
namespace ML
open PySem L2 DL
def forE (t : Tg) (S : SM) (ρ : MEnv) (m : MV) (μ : Sto) : T OutM := match m with
  | .da (.lst ds) => forM t S ds ρ μ
  | _ => .bad
def mForE (f : EM) (t : Tg) (S : SM) : SM := fun ρ μ => (f ρ μ).bind (forE t S ρ)
@[simp] theorem ap_mForE (f : EM) (t : Tg) (S : SM) (ρ : MEnv) (μ : Sto) : mForE f t S ρ μ = (f ρ μ).bind (forE t S ρ) := id rfl
@[simp] theorem forE_lst (t : Tg) (S : SM) (ρ : MEnv) (μ : Sto) (ds : List D) : forE t S ρ (.da (.lst ds)) μ = forM t S ds ρ μ := id rfl
section
variable {X : Cx} {E : XK} {S : SM} {f : EM} {pos : Pos}
theorem ms_forE {tg iter : Expr} {body : List Stmt} {t : Tg} (hp : PassesOwn (model X.prog X.w) X.A X.env X.xe) (hc : X.calm = true) (hi : PM X E iter f) (hg : PXG X tg t) (hb : PMSs X E body S)
    (hs : ∀ x, foldedSetIterable iter X.env x = pure x := by intro _; rfl) : PMS X E (.For tg iter body [] pos) (mForE f t S) := ps_weak (ps_for hp hc (pi_list hi) hg hb hs) fun Dn σ H ⟨He, Fe, θe, F, θ, ρ, μ, r, fin⟩ => by
  unfold mForE at fin
  refine r.eval fin fun v m μ1 F1 H1 θ1 r1 s1 rv fin1 => ?_
  unfold forE at fin1
  split at fin1
  · rename_i ds
    have rv : Rp X.K X.mg F1 v (.lst ds) := rv
    cases rv with
    | lst h rr =>
      refine ⟨_, rfl, ⟨_, SqL.of (r1.hp.fh _ _ h)⟩, ?_⟩
      have go := goes_list (mg := X.mg) (SqL.of (K := X.K) h) rr
      refine ⟨fun i m σ' H' => m = ds.length - i ∧ i ≤ ds.length ∧ ∃ F' θ' ρ' μ', Same F1 F' ∧ RelM X.K X.mg He Fe θe F' θ' ρ' μ' σ' H' ∧ FinS2 X.K X.mg E He Fe θe Dn (forM t S (ds.drop i) ρ' μ'), ⟨ds.length, by simp, Nat.zero_le _, F1, θ1, ρ, μ1, Same.refl F1, r1, fin1⟩, ?_⟩
      rintro i m σ' H' ⟨rfl, hi', F', θ', ρ', μ', f1, r', fin'⟩
      obtain ⟨g1, g2⟩ := go i F' H' f1 r'.hp.fh
      by_cases hlt : i < ds.length
      · right
        have hd : ds[i]? = some ds[i] := List.getElem?_eq_getElem hlt
        obtain ⟨hgo1, hyld⟩ := g2 _ hd
        refine ⟨hgo1, fun σ2 H2 => ∃ F' θ' ρ' μ', Same F1 F' ∧ RelM X.K X.mg He Fe θe F' θ' ρ' μ' σ2 H2 ∧ FinS2 X.K X.mg E He Fe θe Dn (forM t S (ds.drop (i + 1)) ρ' μ'), fun σ2 H2 hN => ⟨ds.length - (i + 1), by omega, rfl, hlt, hN⟩, fun x H2 hy => ?_⟩
        obtain ⟨F2, s2, rp⟩ := hyld x H2 hy
        rw [List.drop_eq_getElem_cons hlt] at fin'
        unfold forM at fin'
        cases ha : tgB t ds[i] with
        | none => rw [ha] at fin'; exact fin'.elim
        | some as =>
          rw [ha] at fin'
          refine ⟨F2, ds[i], as, s2.fh, rp, ha, fun ws hw => ?_⟩
          have r2 := (r'.step s2).setAll hw
          refine ⟨H2, F2, θ', F2, θ', _, μ', ⟨r2.hp, r2.en, StpM.refl _ _ _⟩, ?_⟩
          have tr : ∀ {F3 : Hp} {θ3 : List Addr} {H3 : Hp}, StpM F2 H2 θ' F3 H3 θ3 → StpM Fe He θe F3 H3 θ3 := fun s => r2.st.trans s
          simp only at fin'
          cases hs : S (setM ρ' (as.map fun a => (a.1, .da a.2))) μ' with
          | bad => rw [hs] at fin'; exact fin'
          | err c μ2 => rw [hs] at fin'; exact fun C F3 H3 θ3 s3 h3 m => fin' C F3 H3 θ3 (tr s3) h3 m
          | ok o μ2 =>
            rw [hs] at fin'
            cases o with
            | nx ρ2 => exact fun F3 θ3 σ3 H3 r3 => ⟨F3, θ3, ρ2, μ2, f1.trans (s2.f.trans r3.st.f), ⟨r3.hp, r3.en, tr r3.st⟩, fin'⟩
            | ct ρ2 => exact fun F3 θ3 σ3 H3 r3 => ⟨F3, θ3, ρ2, μ2, f1.trans (s2.f.trans r3.st.f), ⟨r3.hp, r3.en, tr r3.st⟩, fin'⟩
            | bk ρ2 => exact fun F3 θ3 σ3 H3 r3 => fin' F3 θ3 σ3 H3 ⟨r3.hp, r3.en, tr r3.st⟩
            | rt m => exact fun v F3 H3 θ3 s3 h3 rv => fin' v F3 H3 θ3 (tr s3) h3 rv
      · left
        have e : i = ds.length := by omega
        subst e
        rw [List.drop_length] at fin'
        exact ⟨g1 (Nat.le_refl _), fin' F' θ' σ' H' r'⟩

  · exact fin1.elim
end
end ML
/-! more rules of the hand layer: < and > of lists of ints -/
namespace HX
open PySem PySem.Spec PyProof.Rows L2
def rLtL (K : PySem.W.Frag) : R2 := fun x y H Q => ∃ ns ms : List Int, Dp K H x (.list (ns.map .int)) ∧ Dp K H y (.list (ms.map .int)) ∧ Q (.bl (PySem.W.dataLt (.list (ns.map .int)) (.list (ms.map .int)))) H
def rGtL (K : PySem.W.Frag) : R2 := fun x y H Q => ∃ ns ms : List Int, Dp K H x (.list (ns.map .int)) ∧ Dp K H y (.list (ms.map .int)) ∧ Q (.bl (PySem.W.dataLt (.list (ms.map .int)) (.list (ns.map .int)))) H
def rNotNB : R2 := fun x y H Q => ∃ b, x = .non ∧ y = .bl b ∧ Q (.bl true) H
section
variable {X : Cx}
theorem depth_list (ns ms : List Int) : min (PyData.list (ns.map PyData.int)).depth (PyData.list (ms.map PyData.int)).depth ≤ 5 := by
  have := depth_ints ns
  have e : (PyData.list (ns.map PyData.int)).depth ≤ 5 := by rw [PyData.depth]; omega
  omega
theorem op_ltL (hu : X.A.units + 64 < cLine) : OpR X (compareOp .Lt) (rLtL X.K) := by
  intro pins s σ H x y v u Q I rx ry h
  obtain ⟨ns, ms, d1, d2, q⟩ := h
  obtain ⟨as, ra⟩ := Dp.reads I _ _ _ d1 rx
  obtain ⟨bs, rb⟩ := Dp.reads I _ _ _ d2 ry
  have dl := depth_list ns ms
  exact PySem.W.lt_data ra rb (by rw [PySem.W.alike]; exact alikeAll_ints _ _) (fun z => by cases z) (by omega) ⟨.bl _, H, I, rfl, q⟩
theorem op_gtL (hu : X.A.units + 64 < cLine) : OpR X (compareOp .Gt) (rGtL X.K) := by
  intro pins s σ H x y v u Q I rx ry h
  obtain ⟨ns, ms, d1, d2, q⟩ := h
  obtain ⟨as, ra⟩ := Dp.reads I _ _ _ d1 rx
  obtain ⟨bs, rb⟩ := Dp.reads I _ _ _ d2 ry
  have dl := depth_list ns ms
  exact PySem.W.gt_data ra rb (by rw [PySem.W.alike]; exact alikeAll_ints _ _) (fun z => by cases z) (by omega) ⟨.bl _, H, I, rfl, q⟩
theorem op_notNB : OpR X (compareOp .IsNot) rNotNB := by
  intro pins s σ H x y v u Q I rx ry h
  obtain ⟨b, rfl, rfl, q⟩ := h
  cases (show v = Value.none from rx)
  cases (show u = Value.bool b from ry)
  exact wpAny_isNot_other rfl (fun z => by cases z) ⟨.bl true, H, I, rfl, q⟩
end
/-- the order of lists of ints -/
theorem dataLt_lex : ∀ ns ms : List Int, PySem.W.dataLt (.list (ns.map .int)) (.list (ms.map .int)) = HT.lexLt ns ms := by
  intro ns ms
  rw [PySem.W.dataLt_list]
  induction ns generalizing ms with
  | nil =>
    cases ms with
    | nil => rfl
    | cons m ms => rfl
  | cons n ns ih =>
    cases ms with
    | nil => rfl
    | cons m ms =>
      rw [List.map_cons, List.map_cons, HT.lexLt_cons]
      by_cases e : n = m
      · subst e
        rw [if_pos rfl, PySem.W.dataLt_all_yes (by rw [PySem.W.alike]) (by simp [PyData.eqv]), ih]
      · rw [if_neg e, PySem.W.dataLt_all_no (by rw [PySem.W.alike]) (by simp [PyData.eqv, e]), PySem.W.dataLt_int]
end HX
/-! The data layer: < and > of ints and of lists of ints; `is not` of None and a truth. -/
namespace DL
open PySem L2
def oLtX (x y : D) : R D := match x, y with
  | .lst a, .lst b => match intsOf a, intsOf b with
    | some ns, some ms => .ok (.bl (HT.lexLt ns ms))
    | _, _ => .bad
  | d, e => oLt d e
def oGtX (x y : D) : R D := match x, y with
  | .lst a, .lst b => match intsOf a, intsOf b with
    | some ns, some ms => .ok (.bl (HT.lexLt ms ns))
    | _, _ => .bad
  | d, e => oGt d e
def oIsNotX (x y : D) : R D := match x, y with
  | .non, .bl _ => .ok (.bl true)
  | d, e => oIsNot d e
section
variable {X : Cx} {E : XK}
theorem dp_ints {K : PySem.W.Frag} {mg : Str → Option Value} {F H : Hp} {v : V} {a : List D} {ns : List Int} (fh : Same F H) (r : Rp K mg F v (.lst a)) (h : intsOf a = some ns) : Dp K H v (.list (ns.map .int)) := by
  have e := intsOf_eq h
  subst e
  exact (r.mono fh).dp (by simp only [toPy, toPys_ints, Option.map_some])
theorem od_ltX {r : R2} (od : OpD X E r oLt) : OpD X E (fun v w H Q => r v w H Q ∨ HX.rLtL X.K v w H Q) oLtX := fun F H v w d e Q fh r1 r2 fin => by
  by_cases hd : (∃ a, d = .lst a) ∧ ∃ b, e = .lst b
  · obtain ⟨⟨a, rfl⟩, b, rfl⟩ := hd
    simp only [oLtX] at fin
    split at fin
    · rename_i ns ms h1 h2
      refine .inr ⟨ns, ms, dp_ints fh r1 h1, dp_ints fh r2 h2, ?_⟩
      rw [HX.dataLt_lex]
      exact fin _ F H (Stp.refl fh) (.bl _)
    · exact fin.elim
  · refine .inl (od F H v w d e Q fh r1 r2 ?_)
    cases d <;> cases e <;> first | exact fin | exact absurd ⟨⟨_, rfl⟩, _, rfl⟩ hd
theorem od_gtX {r : R2} (od : OpD X E r oGt) : OpD X E (fun v w H Q => r v w H Q ∨ HX.rGtL X.K v w H Q) oGtX := fun F H v w d e Q fh r1 r2 fin => by
  by_cases hd : (∃ a, d = .lst a) ∧ ∃ b, e = .lst b
  · obtain ⟨⟨a, rfl⟩, b, rfl⟩ := hd
    simp only [oGtX] at fin
    split at fin
    · rename_i ns ms h1 h2
      refine .inr ⟨ns, ms, dp_ints fh r1 h1, dp_ints fh r2 h2, ?_⟩
      rw [HX.dataLt_lex]
      exact fin _ F H (Stp.refl fh) (.bl _)
    · exact fin.elim
  · refine .inl (od F H v w d e Q fh r1 r2 ?_)
    cases d <;> cases e <;> first | exact fin | exact absurd ⟨⟨_, rfl⟩, _, rfl⟩ hd
theorem od_isnotX {r : R2} (od : OpD X E r oIsNot) : OpD X E (fun v w H Q => r v w H Q ∨ HX.rNotNB v w H Q) oIsNotX := fun F H v w d e Q fh r1 r2 fin => by
  by_cases hd : d = .non ∧ ∃ b, e = .bl b
  · obtain ⟨rfl, b, rfl⟩ := hd
    cases r1
    cases r2
    exact .inr ⟨b, rfl, rfl, fin _ F H (Stp.refl fh) (.bl _)⟩
  · refine .inl (od F H v w d e Q fh r1 r2 ?_)
    cases d <;> cases e <;> first | exact fin | exact absurd ⟨rfl, _, rfl⟩ hd
end
end DL
/-! The data layer: a def that gives a new list or None. -/
namespace DL
open PySem L2
def FinOpt (K : PySem.W.Frag) (mg : Str → Option Value) (E : XK) (F H : Hp) (Q : VK) : R (Option (List D)) → Prop
  | .ok (some ds) => FinN K mg E F H Q (.ok ds)
  | .ok none => Fin K mg E F H Q (.ok .non)
  | .err c => ∀ C H2, Same H H2 → mg c = some (.ref C) → E (.ref C) none H2
  | .bad => False
def spO (K : PySem.W.Frag) (mg : Str → Option Value) (n : Nat) (f : List D → R (Option (List D))) : Sp := fun vs H Q E => ∃ F ds, ds.length = n ∧ Same F H ∧ Rps K mg F vs ds ∧ FinOpt K mg E F H Q (f ds)
def outO : Out → R (Option (List D))
  | .rtN ds => .ok (some ds)
  | .rt .non => .ok none
  | _ => .bad
def runO (n : Nat) (S : SEnv → R Out) : List D → R (Option (List D)) := fun ds => (S (initS n ds)).bind outO
def optL : Option (List D) → D
  | some ds => .lst ds
  | none => .non
def optX (f : List D → R (Option (List D))) : List D → R D := fun ds => (f ds).map optL
theorem FinOpt.ofX {K : PySem.W.Frag} {mg : Str → Option Value} {E : XK} {F H : Hp} {Q : VK} {r : R (Option (List D))} (h : Fin K mg E F H Q (r.map optL)) : FinOpt K mg E F H Q r := by
  cases r with
  | bad => exact h
  | err c => exact h
  | ok o =>
    cases o with
    | none => exact h
    | some ds => exact Fin.ofN (r := .ok ds) h
def tO (K : PySem.W.Frag) (mg : Str → Option Value) (E : XK) (f : Env → R (Option (List D))) : TE := fun σ H Q => ∃ F ρ, Same F H ∧ EnvR K mg F σ ρ ∧ FinOpt K mg E F H Q (f ρ)
abbrev PO (X : Cx) (E : XK) (e : Expr) (f : Env → R (Option (List D))) : Prop := PE X e (tO X.K X.mg E f)
def eCallO (o : List D → R (Option (List D))) (fs : Env → R (List D)) : Env → R (Option (List D)) := fun ρ => (fs ρ).bind o
def asgO (i : Nat) (ρ : SEnv) : Option (List D) → R Out
  | none => .ok (.nx (ρ.set i (.sh .non)))
  | some ds => if ds.all flatD then .ok (.nx (ρ.set i (.ow ds))) else .bad
def sAsgO (i : Nat) (f : Env → R (Option (List D))) : SEnv → R Out := fun ρ => (f (frE ρ)).bind (asgO i ρ)
section
variable {P : Program} {w : World} {K : PySem.W.Frag} {mg : Str → Option Value} {base : Heap}
theorem fn_o {x qual : Str} {st : Stmt} {f : Addr} {fd : FuncData} {N ps : List Str} {k : Nat} {S : SEnv → R Out} (Fu : Fun K x qual st f fd) (sc : FnScope N ps (defScope st))
    (hb : ∀ (cdv : Value) (A : Around) (outer : List PySem.Env) (s : Shared) (H : Hp) (E : XK), Room k (A.deeper (PyProof.Rows.envOfC qual (defScope st) s.heap.objs.size f cdv)) → PXSs (cxOf (L2.CX P w) P w K mg base N qual (defScope st) f cdv A outer s H E) E (defBody st) S) :
    FnOk P w K mg base (L2.CX P w) (k + 1) f fd ps (spO K mg ps.length (runO N.length S)) :=
  Fu.okX sc (fun vs H Q E h => by
    obtain ⟨F, ds, hl, _, r, _⟩ := h
    rw [r.length, hl]) fun cdv A outer s H vs Q E hr h => ⟨_, hb cdv A outer s H E hr, by
    obtain ⟨F, ds, hl, fh, r, fin⟩ := h
    refine ⟨H, F, F, initS N.length ds, Rel.init rfl fh r, ?_⟩
    unfold runO at fin
    cases hs : S (initS N.length ds) with
    | bad => rw [hs] at fin; exact fin
    | err c => rw [hs] at fin; exact fin
    | ok o =>
      rw [hs] at fin
      cases o with
      | nx ρ => exact fin.elim
      | bk ρ => exact fin.elim
      | ct ρ => exact fin.elim
      | rt d =>
        cases d with
        | non => exact fun v F' H' s rp => fin v F' H' s rp
        | _ => exact fin.elim
      | rtN es => exact fun p vs F' H' s h1 h2 h3 h4 => fin p vs F' H' s h1 h2 h3 h4⟩
theorem hd_o {x : Str} {st : Stmt} {N ps : List Str} {k : Nat} {S : SEnv → R Out} (at_ : At K mg x st) (sc : FnScope N ps (defScope st))
    (hbd : ∀ (kV doc pm : Value) (an : Option Addr) (cdv ct : Value) (us : List Value), us.length = ps.length → bindArgs (PySem.W.fnOf x x (defArgs st) (defBody st) (defScope st) .none kV doc pm an cdv ct) ⟨us, []⟩ = pure (ps.zip us))
    (hb : ∀ (f : Addr) (cdv : Value) (A : Around) (outer : List PySem.Env) (s : Shared) (H : Hp) (E : XK), Room k (A.deeper (PyProof.Rows.envOfC x (defScope st) s.heap.objs.size f cdv)) → PXSs (cxOf (L2.CX P w) P w K mg base N x (defScope st) f cdv A outer s H E) E (defBody st) S) :
    HasDef P w K mg base x ps (k + 1) (spO K mg ps.length (runO N.length S)) := by
  obtain ⟨f, fd, hm, Fu⟩ := at_
  exact ⟨f, fd, hm, fn_o Fu sc (hb f), Fu.kp, Fu.binds hbd⟩
theorem HasDef.toXO {x : Str} {ps : List Str} {k n : Nat} {f : List D → R (Option (List D))} (h : HasDef P w K mg base x ps k (spO K mg n f)) : HasDef P w K mg base x ps k (spX K mg n (optX f)) := h.imp fun vs H Q E ⟨F, ds, l, fh, r, fin⟩ => ⟨F, ds, l, fh, r, FinOpt.ofX fin⟩
end
section
variable {X : Cx} {E : XK} {k j : Nat} {ps : List Str} {x : Str} {p pos : Pos} {e : Expr} {es : List Expr} {fs : Env → R (List D)} {n : Nat}
theorem po_def {o : List D → R (Option (List D))} (G : HasDef X.prog X.w X.K X.mg X.base x ps j (spO X.K X.mg n o)) (hr : Room k X.A) (hj : j ≤ k) (hg : Gl X x) (hx : Passes (L2.CX X.prog X.w) X E) (ha : PXs X E (e :: es) fs) (hdb : (x == ("__debug__" : Str)) = false := by decide)
    (he : starEach (e :: es) X.env = (false, eval e X.env) :: starEach es X.env := by rfl) (hpl : (backTo pos (starEach es X.env)).any (·.1) = false := by rfl) : PO X E (.Call (.Name x p) (e :: es) [] pos) (eCallO (callF n o) fs) := by
  obtain ⟨f, fd, a, b, c, d⟩ := G
  refine pe_weak (pe_call b (hr.mono hj) hg a c d .nil hx ha hdb he hpl) fun σ H Q ⟨F, ρ, fh, en, fin⟩ => ?_
  refine ⟨F, ρ, fh, en, ?_⟩
  unfold eCallO at fin
  cases hf : fs ρ with
  | bad => rw [hf] at fin; exact fin
  | err c => rw [hf] at fin; exact fin
  | ok ds =>
    rw [hf] at fin
    intro vs F1 H1 s1 r1
    have fin1 : FinOpt X.K X.mg E F H Q (callF n o ds) := fin
    unfold callF at fin1
    by_cases hl : ds.length = n
    · rw [if_pos hl] at fin1
      rw [List.append_nil]
      refine ⟨F1, ds, hl, s1.fh, r1, ?_⟩
      cases ho : o ds with
      | bad => rw [ho] at fin1; exact fin1
      | err c => rw [ho] at fin1; exact fun C H2 e m => fin1 C H2 (s1.h.trans e) m
      | ok q =>
        rw [ho] at fin1
        cases q with
        | none => exact fun v F2 H2 s2 hr => fin1 v F2 H2 (s1.trans s2) hr
        | some es => exact fun p vs F2 H2 s2 h1 h2 h3 h4 => fin1 p vs F2 H2 (s1.trans s2) (s1.h.free h1) h2 h3 h4
    · rw [if_neg hl] at fin1
      exact fin1.elim
end
section
variable {K : PySem.W.Frag} {mg : Str → Option Value} {E : XK}
theorem tS_asgO {i : Nat} {f : Env → R (Option (List D))} (Dn : Ends) (σ : L2.St) (H : Hp) (h : tS K mg E (sAsgO i f) Dn σ H) : tAsg (tO K mg E f) (gName i) Dn σ H := by
  obtain ⟨He, Fe, F, ρ, r, fin⟩ := h
  refine ⟨H, frE ρ, Same.refl H, r.envFr, ?_⟩
  unfold sAsgO at fin
  cases hf : f (frE ρ) with
  | bad => rw [hf] at fin; exact fin
  | err c => rw [hf] at fin; exact fun C H2 e m => fin C H2 (r.st.h.trans e) m
  | ok o =>
    rw [hf] at fin
    cases o with
    | none =>
      intro v F2 H2 s rp
      cases rp
      exact fin F _ H2 ((r.grow s.h).setSh .non)
    | some ds =>
      intro p vs F2 H2 s h1 h2 h3 h4
      have fin2 : FinS K mg E He Fe Dn (if ds.all flatD then .ok (.nx (ρ.set i (.ow ds))) else .bad) := fin
      by_cases hf : ds.all flatD = true
      · rw [if_pos hf] at fin2
        exact fin2 F _ H2 ((r.grow s.h).setOw (r.st.h.free h1) (r.st.fh.free h1) h3 (h4.flatAny hf) fun j es _ hj => r.fresh h1 j es hj)
      · rw [if_neg hf] at fin2
        exact fin2.elim
end
section
variable {X : Cx} {E : XK} {e c a b : Expr} {pos : Pos}
theorem pxs_setO {i : Nat} {x : Str} {pos' : Pos} {f : Env → R (Option (List D))} (hN : X.N.Nodup) (hi : X.N[i]? = some x) (hx : Loc X.env.scope x) (he : PO X E e f) (hs : swapsWith e (some (.Name x pos')) pos.line X.env = pure false := by rfl) (hf : X.fn x = true ∨ X.env.scope.names.lookup x = some .local := by first | exact .inl rfl | exact .inr rfl | assumption) :
    PXS X E (.Assign [.Name x pos'] e pos) (sAsgO i f) := ps_weak (ps_set hN hi hx he hs hf) fun Dn σ H h => tS_asgO Dn σ H h
theorem pxs_retIf {t : Env → R Bool} {fs : Env → R (List D)} {f : Env → R D} {pos' : Pos} (hc : PXT X E c t) (ha : PN X E a fs) (hb : PX X E b f) : PXS X E (.Return (some (.IfExp c a b pos')) pos) (sIf t (sRetN fs) (sRet f)) := ps_weak (ps_ret (pe_ifExp hc ha hb)) fun Dn σ H ⟨He, Fe, F, ρ, r, fin⟩ =>
  r.evalT fin fun b H2 e fin2 => by
    cases b with
    | true =>
      rw [if_pos rfl]
      rw [if_pos rfl] at fin2
      obtain ⟨F', r'⟩ := (r.grow e).frzAll
      unfold sRetN at fin2
      rw [← hd_fz] at fin2
      exact r'.evalNHd fin2 fun p vs ds F2 H2 s h1 h2 h3 h4 fin2 => fin2 p vs F2 H2 (r'.st.trans s) (r'.st.h.free h1) h2 h3 h4
    | false =>
      rw [if_neg Bool.false_ne_true]
      rw [if_neg Bool.false_ne_true] at fin2
      obtain ⟨F', r'⟩ := (r.grow e).frzAll
      unfold sRet at fin2
      rw [← hd_fz] at fin2
      exact r'.evalHd fin2 fun v d F2 H2 s rp fin2 => fin2 v F2 H2 (r'.st.trans s) rp
end
end DL
/-! rows that keep a wish as the leaves of a tree; how many are behind a beginning -/
namespace DL
open PySem L2
def goodAt (H L : Wl) (s : List Int) (t : Int) : Bool := hlB H s.length (decide (∀ y ∈ s, y < t)) && hlB L s.length (decide (∀ y ∈ s, t < y))
def cand (n : Nat) (s : List Int) : List Int := (rgN 0 n).filter fun t => decide (t ∉ s)
def dfs (n : Nat) (H L : Wl) : Nat → List Int → List (List Int)
  | 0, s => [s]
  | k + 1, s => (cand n s).flatMap fun t => if goodAt H L s t then dfs n H L k (s ++ [t]) else []
def abv (n : Nat) (s : List Int) : List Int := (cand n s).filter fun t => decide (∀ y ∈ s, y < t)
def blw (n : Nat) (s : List Int) : List Int := (cand n s).filter fun t => decide (∀ y ∈ s, t < y)
def mid (n : Nat) (s : List Int) : List Int := (cand n s).filter fun t => !decide (∀ y ∈ s, y < t) && !decide (∀ y ∈ s, t < y)
def wayK (H L : Wl) (n : Nat) : Nat → Nat → Nat → Nat
  | 0, _, _ => 1
  | k + 1, a, b => (if hlB H ((n - (k + 1) : Nat) : Int) true && hlB L ((n - (k + 1) : Nat) : Int) false then ((List.range a).map fun m => wayK H L n k m b).sum else 0)
      + (if hlB L ((n - (k + 1) : Nat) : Int) true && hlB H ((n - (k + 1) : Nat) : Int) false then ((List.range b).map fun m => wayK H L n k a m).sum else 0)
      + (if hlB H ((n - (k + 1) : Nat) : Int) false && hlB L ((n - (k + 1) : Nat) : Int) false then (k + 1 - a - b) * wayK H L n k a b else 0)
theorem cand_mem {n : Nat} {s : List Int} {t : Int} : t ∈ cand n s ↔ (0 ≤ t ∧ t < n) ∧ t ∉ s := by
  unfold cand
  rw [List.mem_filter, mem_rgN, decide_eq_true_eq]
  constructor
  · rintro ⟨h1, h2⟩; exact ⟨by omega, h2⟩
  · rintro ⟨h1, h2⟩; exact ⟨by omega, h2⟩
theorem rgN_lt (lo : Int) (n : Nat) : (rgN lo n).Pairwise (· < ·) := by
  induction n generalizing lo with
  | zero => exact List.Pairwise.nil
  | succ n ih =>
    rw [rgN_succ]
    refine List.pairwise_cons.mpr ⟨fun x hx => ?_, ih _⟩
    have := mem_rgN.mp hx
    omega
theorem cand_sorted (n : Nat) (s : List Int) : (cand n s).Pairwise (· < ·) := (rgN_lt 0 n).filter _
/-! sums -/
theorem sum_above (f : Nat → Nat) : ∀ A : List Int, A.Pairwise (· < ·) → (A.map fun t => f (A.filter fun u => decide (t < u)).length).sum = ((List.range A.length).map f).sum
  | [], _ => rfl
  | x :: A, h => by
    obtain ⟨h1, h2⟩ := List.pairwise_cons.mp h
    have ih := sum_above f A h2
    rw [List.map_cons, List.sum_cons, List.length_cons, List.range_succ, List.map_append, List.sum_append]
    have e1 : ((x :: A).filter fun u => decide (x < u)).length = A.length := by
      rw [List.filter_cons, if_neg (by simp), List.filter_eq_self.mpr fun u hu => by simpa using h1 u hu]
    have e2 : (A.map fun t => f ((x :: A).filter fun u => decide (t < u)).length) = A.map fun t => f (A.filter fun u => decide (t < u)).length := List.map_congr_left fun t ht => by
      have := h1 t ht
      rw [List.filter_cons, if_neg (by simp; omega)]
    rw [e1, e2, ih]
    simp
    omega
theorem sum_below (f : Nat → Nat) : ∀ A : List Int, A.Pairwise (· < ·) → (A.map fun t => f (A.filter fun u => decide (u < t)).length).sum = ((List.range A.length).map f).sum := by
  intro A
  induction A generalizing f with
  | nil => intro _; rfl
  | cons x A ih =>
    intro h
    obtain ⟨h1, h2⟩ := List.pairwise_cons.mp h
    have ih := ih (fun i => f (i + 1)) h2
    rw [List.map_cons, List.sum_cons, List.length_cons, List.range_succ_eq_map, List.map_cons, List.sum_cons, List.map_map]
    have e1 : ((x :: A).filter fun u => decide (u < x)).length = 0 := by
      rw [List.filter_cons, if_neg (by simp), List.length_eq_zero_iff]
      exact List.filter_eq_nil_iff.mpr fun u hu => by have := h1 u hu; simp; omega
    have e2 : (A.map fun t => f ((x :: A).filter fun u => decide (u < t)).length) = A.map fun t => f ((A.filter fun u => decide (u < t)).length + 1) := List.map_congr_left fun t ht => by
      have := h1 t ht
      rw [List.filter_cons, if_pos (by simpa using this)]
      rfl
    rw [e1, e2, ih]
    rfl
theorem sum_split (f : Int → Nat) (p q : Int → Bool) : ∀ xs : List Int, (∀ x ∈ xs, ¬ (p x = true ∧ q x = true)) → (xs.map f).sum = ((xs.filter p).map f).sum + ((xs.filter q).map f).sum + ((xs.filter fun x => !p x && !q x).map f).sum
  | [], _ => rfl
  | x :: xs, h => by
    have ih := sum_split f p q xs fun y hy => h y (List.mem_cons_of_mem _ hy)
    have hx := h x List.mem_cons_self
    rw [List.map_cons, List.sum_cons, ih, List.filter_cons, List.filter_cons, List.filter_cons]
    cases hp : p x <;> cases hq : q x
    · simp; omega
    · simp; omega
    · simp; omega
    · exact absurd ⟨hp, hq⟩ hx
theorem len_split (p q : Int → Bool) : ∀ xs : List Int, (∀ x ∈ xs, ¬ (p x = true ∧ q x = true)) → xs.length = (xs.filter p).length + (xs.filter q).length + (xs.filter fun x => !p x && !q x).length
  | [], _ => rfl
  | x :: xs, h => by
    have ih := len_split p q xs fun y hy => h y (List.mem_cons_of_mem _ hy)
    have hx := h x List.mem_cons_self
    rw [List.length_cons, ih, List.filter_cons, List.filter_cons, List.filter_cons]
    cases hp : p x <;> cases hq : q x
    · simp; omega
    · simp; omega
    · simp; omega
    · exact absurd ⟨hp, hq⟩ hx
theorem filt_add (p : Int → Bool) : ∀ xs : List Int, xs.length = (xs.filter p).length + (xs.filter fun x => !p x).length
  | [] => rfl
  | x :: xs => by
    have ih := filt_add p xs
    rw [List.length_cons, List.filter_cons, List.filter_cons]
    cases hp : p x <;> simp <;> omega
structure Pref (n : Nat) (s : List Int) : Prop where
  nd : s.Nodup
  rg : ∀ y ∈ s, 0 ≤ y ∧ y < n
theorem Pref.snoc {n : Nat} {s : List Int} {t : Int} (P : Pref n s) (ht : t ∈ cand n s) : Pref n (s ++ [t]) := by
  obtain ⟨h1, h2⟩ := cand_mem.mp ht
  refine ⟨?_, fun y hy => ?_⟩
  · refine List.nodup_append.mpr ⟨P.nd, by simp, fun a ha b hb => ?_⟩
    rw [List.mem_singleton] at hb
    subst hb
    exact fun z => h2 (z ▸ ha)
  · rcases List.mem_append.mp hy with z | z
    · exact P.rg y z
    · rw [List.mem_singleton] at z; rw [z]; exact h1
theorem cand_len {n : Nat} {s : List Int} (P : Pref n s) : (cand n s).length + s.length = n := by
  have hp : ((rgN 0 n).filter fun t => decide (t ∈ s)).Perm s := by
    refine (List.perm_ext_iff_of_nodup ((rgN_nodup 0 n).filter _) P.nd).mpr fun a => ?_
    rw [List.mem_filter, mem_rgN, decide_eq_true_eq]
    exact ⟨fun z => z.2, fun z => ⟨by have := P.rg a z; omega, z⟩⟩
  have e := hp.length_eq
  have h2 := filt_add (fun t => decide (t ∈ s)) (rgN 0 n)
  rw [rgN_len, e] at h2
  have : (cand n s).length = ((rgN 0 n).filter fun t => !decide (t ∈ s)).length := by
    unfold cand
    congr 1
    refine List.filter_congr fun x _ => ?_
    by_cases z : x ∈ s <;> simp [z]
  omega
theorem dfs_len (n : Nat) (H L : Wl) : ∀ (k : Nat) (s : List Int), s ≠ [] → Pref n s → s.length + k = n → (dfs n H L k s).length = wayK H L n k (abv n s).length (blw n s).length
  | 0, s, _, _, _ => rfl
  | k + 1, s, hne, P, hl => by
    obtain ⟨y0, hy0⟩ := List.exists_mem_of_ne_nil s hne
    have dis : ∀ x ∈ cand n s, ¬ (decide (∀ y ∈ s, y < x) = true ∧ decide (∀ y ∈ s, x < y) = true) := fun x _ h => by
      have h1 := of_decide_eq_true h.1 y0 hy0
      have h2 := of_decide_eq_true h.2 y0 hy0
      omega
    have ep : n - (k + 1) = s.length := by omega
    have e0 : (dfs n H L (k + 1) s).length = ((cand n s).map fun t => (if goodAt H L s t then dfs n H L k (s ++ [t]) else []).length).sum := by
      rw [dfs, List.length_flatMap]
    rw [e0, sum_split _ (fun t => decide (∀ y ∈ s, y < t)) (fun t => decide (∀ y ∈ s, t < y)) _ dis, wayK, ep]
    have ih : ∀ t ∈ cand n s, (dfs n H L k (s ++ [t])).length = wayK H L n k (abv n (s ++ [t])).length (blw n (s ++ [t])).length := fun t ht => dfs_len n H L k (s ++ [t]) (by simp) (P.snoc ht) (by simp; omega)
    -- cells of the tree
    have ca : ∀ t, cand n (s ++ [t]) = (cand n s).filter fun u => decide (u ≠ t) := fun t => by
      unfold cand
      rw [List.filter_filter]
      refine List.filter_congr fun u _ => ?_
      by_cases z : u ∈ s <;> by_cases z2 : u = t <;> simp [z, z2]
    have A1 : ∀ t ∈ abv n s, (abv n (s ++ [t])).length = ((abv n s).filter fun u => decide (t < u)).length ∧ (blw n (s ++ [t])).length = (blw n s).length := fun t ht => by
      obtain ⟨tc, ta⟩ := List.mem_filter.mp ht
      have ta := of_decide_eq_true ta
      refine ⟨?_, ?_⟩
      · unfold abv
        rw [ca, List.filter_filter, List.filter_filter]
        congr 1
        refine List.filter_congr fun u _ => ?_
        rw [Bool.eq_iff_iff]
        simp only [Bool.and_eq_true, decide_eq_true_eq, List.mem_append, List.mem_singleton]
        constructor
        · rintro ⟨h1, h2⟩; exact ⟨h1 t (Or.inr rfl), fun y hy => h1 y (Or.inl hy)⟩
        · rintro ⟨h1, h2⟩
          exact ⟨fun y hy => by rcases hy with z | rfl; exact h2 y z; exact h1, by omega⟩
      · unfold blw
        rw [ca, List.filter_filter]
        congr 1
        refine List.filter_congr fun u _ => ?_
        rw [Bool.eq_iff_iff]
        simp only [Bool.and_eq_true, decide_eq_true_eq, List.mem_append, List.mem_singleton]
        constructor
        · rintro ⟨h1, h2⟩ y hy; exact h1 y (Or.inl hy)
        · intro h1
          have := h1 y0 hy0
          have := ta y0 hy0
          exact ⟨fun y hy => by rcases hy with z | rfl; exact h1 y z; omega, by omega⟩
    have B1 : ∀ t ∈ blw n s, (blw n (s ++ [t])).length = ((blw n s).filter fun u => decide (u < t)).length ∧ (abv n (s ++ [t])).length = (abv n s).length := fun t ht => by
      obtain ⟨tc, ta⟩ := List.mem_filter.mp ht
      have ta := of_decide_eq_true ta
      refine ⟨?_, ?_⟩
      · unfold blw
        rw [ca, List.filter_filter, List.filter_filter]
        congr 1
        refine List.filter_congr fun u _ => ?_
        rw [Bool.eq_iff_iff]
        simp only [Bool.and_eq_true, decide_eq_true_eq, List.mem_append, List.mem_singleton]
        constructor
        · rintro ⟨h1, h2⟩; exact ⟨h1 t (Or.inr rfl), fun y hy => h1 y (Or.inl hy)⟩
        · rintro ⟨h1, h2⟩
          exact ⟨fun y hy => by rcases hy with z | rfl; exact h2 y z; exact h1, by omega⟩
      · unfold abv
        rw [ca, List.filter_filter]
        congr 1
        refine List.filter_congr fun u _ => ?_
        rw [Bool.eq_iff_iff]
        simp only [Bool.and_eq_true, decide_eq_true_eq, List.mem_append, List.mem_singleton]
        constructor
        · rintro ⟨h1, h2⟩ y hy; exact h1 y (Or.inl hy)
        · intro h1
          have := h1 y0 hy0
          have := ta y0 hy0
          exact ⟨fun y hy => by rcases hy with z | rfl; exact h1 y z; omega, by omega⟩
    have M1 : ∀ t ∈ mid n s, (abv n (s ++ [t])).length = (abv n s).length ∧ (blw n (s ++ [t])).length = (blw n s).length := fun t ht => by
      obtain ⟨tc, tm⟩ := List.mem_filter.mp ht
      rw [Bool.and_eq_true, Bool.not_eq_true', Bool.not_eq_true'] at tm
      have t1 := of_decide_eq_false tm.1
      have t2 := of_decide_eq_false tm.2
      have tn := (cand_mem.mp tc).2
      have lo : ∃ y ∈ s, t < y := by
        refine Classical.byContradiction fun z => t1 fun y hy => ?_
        have h1 : ¬ t < y := fun q => z ⟨y, hy, q⟩
        have h2 : y ≠ t := fun q => tn (q ▸ hy)
        omega
      have hi : ∃ y ∈ s, y < t := by
        refine Classical.byContradiction fun z => t2 fun y hy => ?_
        have h1 : ¬ y < t := fun q => z ⟨y, hy, q⟩
        have h2 : y ≠ t := fun q => tn (q ▸ hy)
        omega
      obtain ⟨yl, hyl, ll⟩ := lo
      obtain ⟨yh, hyh, lh⟩ := hi
      refine ⟨?_, ?_⟩
      · unfold abv
        rw [ca, List.filter_filter]
        congr 1
        refine List.filter_congr fun u _ => ?_
        rw [Bool.eq_iff_iff]
        simp only [Bool.and_eq_true, decide_eq_true_eq, List.mem_append, List.mem_singleton]
        constructor
        · rintro ⟨h1, h2⟩ y hy; exact h1 y (Or.inl hy)
        · intro h1
          have := h1 yl hyl
          exact ⟨fun y hy => by rcases hy with z | rfl; exact h1 y z; omega, by omega⟩
      · unfold blw
        rw [ca, List.filter_filter]
        congr 1
        refine List.filter_congr fun u _ => ?_
        rw [Bool.eq_iff_iff]
        simp only [Bool.and_eq_true, decide_eq_true_eq, List.mem_append, List.mem_singleton]
        constructor
        · rintro ⟨h1, h2⟩ y hy; exact h1 y (Or.inl hy)
        · intro h1
          have := h1 yh hyh
          exact ⟨fun y hy => by rcases hy with z | rfl; exact h1 y z; omega, by omega⟩
    have sub : ∀ (p : Int → Bool) t, t ∈ (cand n s).filter p → t ∈ cand n s := fun p t h => (List.mem_filter.mp h).1
    have lmid : (mid n s).length = k + 1 - (abv n s).length - (blw n s).length := by
      have := len_split (fun t => decide (∀ y ∈ s, y < t)) (fun t => decide (∀ y ∈ s, t < y)) (cand n s) dis
      have := cand_len P
      unfold mid abv blw
      omega
    congr 1
    · congr 1
      · -- above
        have g : ∀ t ∈ abv n s, goodAt H L s t = (hlB H s.length true && hlB L s.length false) := fun t ht => by
          have ta := of_decide_eq_true (List.mem_filter.mp ht).2
          unfold goodAt
          rw [decide_eq_true ta, decide_eq_false (fun z => by have := z y0 hy0; have := ta y0 hy0; omega)]
        show ((abv n s).map _).sum = _
        cases hc : (hlB H s.length true && hlB L s.length false) with
        | true =>
          rw [if_pos rfl, ← sum_above _ (abv n s) ((cand_sorted n s).filter _)]
          congr 1
          refine List.map_congr_left fun t ht => ?_
          rw [g t ht, hc, if_pos rfl, ih t (sub _ t ht), (A1 t ht).1, (A1 t ht).2]
        | false =>
          rw [if_neg Bool.false_ne_true]
          refine List.sum_eq_zero_iff_forall_eq_nat.mpr fun x hx => ?_
          obtain ⟨t, ht, rfl⟩ := List.mem_map.mp hx
          rw [g t ht, hc]; rfl
      · -- below
        have g : ∀ t ∈ blw n s, goodAt H L s t = (hlB L s.length true && hlB H s.length false) := fun t ht => by
          have ta := of_decide_eq_true (List.mem_filter.mp ht).2
          unfold goodAt
          rw [decide_eq_true ta, decide_eq_false (fun z => by have := z y0 hy0; have := ta y0 hy0; omega), Bool.and_comm]
        show ((blw n s).map _).sum = _
        cases hc : (hlB L s.length true && hlB H s.length false) with
        | true =>
          rw [if_pos rfl, ← sum_below _ (blw n s) ((cand_sorted n s).filter _)]
          congr 1
          refine List.map_congr_left fun t ht => ?_
          rw [g t ht, hc, if_pos rfl, ih t (sub _ t ht), (B1 t ht).1, (B1 t ht).2]
        | false =>
          rw [if_neg Bool.false_ne_true]
          refine List.sum_eq_zero_iff_forall_eq_nat.mpr fun x hx => ?_
          obtain ⟨t, ht, rfl⟩ := List.mem_map.mp hx
          rw [g t ht, hc]; rfl
    · -- between
      have g : ∀ t ∈ mid n s, goodAt H L s t = (hlB H s.length false && hlB L s.length false) := fun t ht => by
        have tm := (List.mem_filter.mp ht).2
        rw [Bool.and_eq_true, Bool.not_eq_true', Bool.not_eq_true'] at tm
        unfold goodAt
        rw [tm.1, tm.2]
      show ((mid n s).map _).sum = _
      cases hc : (hlB H s.length false && hlB L s.length false) with
      | true =>
        rw [if_pos rfl, ← lmid]
        have e : ((mid n s).map fun t => (if goodAt H L s t then dfs n H L k (s ++ [t]) else []).length) = (mid n s).map fun _ => wayK H L n k (abv n s).length (blw n s).length := List.map_congr_left fun t ht => by
          rw [g t ht, hc, if_pos rfl, ih t (sub _ t ht), (M1 t ht).1, (M1 t ht).2]
        rw [e, List.map_const', List.sum_replicate_nat]
      | false =>
        rw [if_neg Bool.false_ne_true]
        refine List.sum_eq_zero_iff_forall_eq_nat.mpr fun x hx => ?_
        obtain ⟨t, ht, rfl⟩ := List.mem_map.mp hx
        rw [g t ht, hc]; rfl
end DL
/-! the leaves: which they are, in which order, how many -/
namespace DL
open PySem L2
theorem ranks_rk (ys : List Int) : ranksIn ys = rkB [] ys := by
  have := ranks_split ys []
  simpa [ranksIn] using this
theorem ranks_snoc (s : List Int) (t : Int) : ranksIn (s ++ [t]) = ranksIn s ++ [((s.countP fun z => decide (z < t) : Nat) : Int)] := ranks_split [t] s
theorem good_span {H L : Wl} {s : List Int} {t : Int} (ht : t ∉ s) : inSp (spanF H L s.length) ((s.countP fun z => decide (z < t) : Nat) : Int) = goodAt H L s t := by
  have le : s.countP (fun z => decide (z < t)) ≤ s.length := List.countP_le_length
  rw [inSp_hl H L s.length _ (by omega) (by omega)]
  unfold goodAt
  have e1 : decide (((s.countP fun z => decide (z < t) : Nat) : Int) = (s.length : Int)) = decide (∀ y ∈ s, y < t) := by
    rw [Bool.eq_iff_iff, decide_eq_true_eq, decide_eq_true_eq]
    constructor
    · intro h
      have h2 : s.countP (fun z => decide (z < t)) = s.length := by omega
      exact fun y hy => of_decide_eq_true (List.countP_eq_length.mp h2 y hy)
    · intro h
      rw [List.countP_eq_length.mpr fun y hy => decide_eq_true (h y hy)]
  have e2 : decide (((s.countP fun z => decide (z < t) : Nat) : Int) = 0) = decide (∀ y ∈ s, t < y) := by
    rw [Bool.eq_iff_iff, decide_eq_true_eq, decide_eq_true_eq]
    constructor
    · intro h y hy
      have h2 : s.countP (fun z => decide (z < t)) = 0 := by omega
      have h3 := List.countP_eq_zero.mp h2 y hy
      have h4 : y ≠ t := fun z => ht (z ▸ hy)
      simp at h3
      omega
    · intro h
      rw [List.countP_eq_zero.mpr fun y hy => by have := h y hy; simp; omega]
      rfl
  rw [e1, e2]
theorem kept_snoc {H L : Wl} {s : List Int} {t : Int} (ht : t ∉ s) : keptF (ranksIn (s ++ [t])) H L = (keptF (ranksIn s) H L && goodAt H L s t) := by
  rw [ranks_snoc, keptF_snoc (k := s.length) (ranksIn_len s), good_span ht]
theorem kept_pre {H L : Wl} {s r : List Int} (h : keptF (ranksIn (s ++ r)) H L = true) : keptF (ranksIn s) H L = true := by
  rw [ranks_split] at h
  refine kept_iff.mpr fun i x hx => kept_iff.mp h i x ?_
  rw [List.getElem?_append_left (List.getElem?_eq_some_iff.mp hx).1]
  exact hx
theorem dfs_mem (n : Nat) (H L : Wl) : ∀ (k : Nat) (s : List Int), Pref n s → s.length + k = n → keptF (ranksIn s) H L = true → ∀ r, r ∈ dfs n H L k s ↔ (∃ u, r = s ++ u) ∧ Pref n r ∧ r.length = n ∧ keptF (ranksIn r) H L = true
  | 0, s, P, hl, hk, r => by
    rw [dfs, List.mem_singleton]
    constructor
    · rintro rfl; exact ⟨⟨[], by simp⟩, P, by omega, hk⟩
    · rintro ⟨⟨u, rfl⟩, _, h, _⟩
      have : u = [] := List.length_eq_zero_iff.mp (by rw [List.length_append] at h; omega)
      rw [this, List.append_nil]
  | k + 1, s, P, hl, hk, r => by
    rw [dfs, List.mem_flatMap]
    constructor
    · rintro ⟨t, ht, hr⟩
      split at hr
      · rename_i g
        have tn := (cand_mem.mp ht).2
        obtain ⟨⟨u, rfl⟩, a, b, c⟩ := (dfs_mem n H L k (s ++ [t]) (P.snoc ht) (by simp; omega) (by rw [kept_snoc tn, hk, g]; rfl) r).mp hr
        exact ⟨⟨t :: u, by simp⟩, a, b, c⟩
      · cases hr
    · rintro ⟨⟨u, rfl⟩, a, b, c⟩
      cases u with
      | nil => rw [List.append_nil] at b; omega
      | cons t u =>
        have tm : t ∈ s ++ t :: u := by simp
        have tn : t ∉ s := fun z => (List.nodup_append.mp a.nd).2.2 t z t (by simp) rfl
        have tc : t ∈ cand n s := cand_mem.mpr ⟨a.rg t tm, tn⟩
        have e : s ++ t :: u = (s ++ [t]) ++ u := by simp
        have k2 : keptF (ranksIn (s ++ [t])) H L = true := by rw [e] at c; exact kept_pre c
        have g : goodAt H L s t = true := by
          rw [kept_snoc tn, Bool.and_eq_true] at k2
          exact k2.2
        refine ⟨t, tc, ?_⟩
        rw [if_pos g]
        exact (dfs_mem n H L k (s ++ [t]) (P.snoc tc) (by simp; omega) k2 _).mpr ⟨⟨u, e⟩, a, b, c⟩
/-! the order -/
theorem lt_pre (s : List Int) {t1 t2 : Int} (h : t1 < t2) (u v : List Int) : s ++ t1 :: u < s ++ t2 :: v := by
  induction s with
  | nil => exact List.cons_lt_cons_iff.mpr (Or.inl h)
  | cons x s ih => exact List.cons_lt_cons_iff.mpr (Or.inr ⟨rfl, ih⟩)
theorem dfs_ext (n : Nat) (H L : Wl) : ∀ (k : Nat) (s r : List Int), r ∈ dfs n H L k s → ∃ u, r = s ++ u
  | 0, s, r, h => by rw [dfs, List.mem_singleton] at h; exact ⟨[], by simp [h]⟩
  | k + 1, s, r, h => by
    rw [dfs, List.mem_flatMap] at h
    obtain ⟨t, ht, hr⟩ := h
    split at hr
    · obtain ⟨u, rfl⟩ := dfs_ext n H L k _ r hr
      exact ⟨t :: u, by simp⟩
    · cases hr
theorem dfs_sorted (n : Nat) (H L : Wl) : ∀ (k : Nat) (s : List Int), (dfs n H L k s).Pairwise (· < ·)
  | 0, s => by rw [dfs]; exact List.pairwise_singleton _ _
  | k + 1, s => by
    rw [dfs, List.pairwise_flatMap]
    refine ⟨fun t _ => ?_, ?_⟩
    · split
      · exact dfs_sorted n H L k _
      · exact List.Pairwise.nil
    · refine (cand_sorted n s).imp fun {t1 t2} h x hx y hy => ?_
      split at hx
      · split at hy
        · obtain ⟨u, rfl⟩ := dfs_ext n H L k _ x hx
          obtain ⟨v, rfl⟩ := dfs_ext n H L k _ y hy
          rw [List.append_assoc, List.append_assoc]
          exact lt_pre s h u v
        · cases hy
      · cases hx
theorem dfs_nodup (n : Nat) (H L : Wl) (k : Nat) (s : List Int) : (dfs n H L k s).Nodup := (dfs_sorted n H L k s).imp fun {a b} h e => by subst e; exact List.lt_irrefl a h
theorem lex_lt : ∀ a b : List Int, HT.lexLt a b = decide (a < b)
  | [], [] => rfl
  | [], b :: bs => by rw [HT.lexLt_nil_cons]; rfl
  | a :: as, [] => by rw [HT.lexLt_cons_nil]; rfl
  | a :: as, b :: bs => by
    rw [HT.lexLt_cons, lex_lt as bs, Bool.eq_iff_iff, decide_eq_true_eq, List.cons_lt_cons_iff]
    by_cases e : a = b
    · subst e; simp
    · simp [e]
/-! rows by their ranks -/
theorem rkB_map (f : Int → Int) : ∀ (ys pre : List Int), (∀ x ∈ pre ++ ys, ∀ y ∈ pre ++ ys, (f x < f y ↔ x < y)) → rkB (pre.map f) (ys.map f) = rkB pre ys
  | [], pre, _ => rfl
  | y :: ys, pre, h => by
    have ih := rkB_map f ys (pre ++ [y]) (fun a ha b hb => h a (by simpa using ha) b (by simpa using hb))
    rw [List.map_cons, rkB, rkB, ← ih, List.map_append, List.map_singleton]
    congr 2
    rw [List.countP_map]
    refine List.countP_congr fun z hz => ?_
    simp only [Function.comp_apply, decide_eq_true_eq]
    exact h z (by simp [hz]) y (by simp)
theorem pref_perm {n : Nat} {r : List Int} (P : Pref n r) (hl : r.length = n) : r.Perm (rgN 0 n) := by
  refine (List.perm_ext_iff_of_nodup P.nd (rgN_nodup 0 n)).mpr fun a => ?_
  rw [mem_rgN]
  constructor
  · intro h; have := P.rg a h; omega
  · intro h
    refine Classical.byContradiction fun z => ?_
    have c := cand_len P
    have : a ∈ cand n r := cand_mem.mpr ⟨by omega, z⟩
    have := List.length_pos_of_mem this
    omega
theorem row_pref {n : Nat} {r : List Int} (hr : isRow r = true) (hl : r.length = n) : Pref n r := ⟨isRow_nodup hr, fun y hy => by
  have := mem_rgN.mp ((isRow_perm hr).mem_iff.mp hy)
  omega⟩
theorem rowBy_ranks : ∀ (n : Nat) (r : List Int), Pref n r → r.length = n → rowBy (ranksIn r) = r
  | 0, r, _, hl => by rw [List.length_eq_zero_iff.mp hl]; rfl
  | n + 1, r, P, hl => by
    have ne : r ≠ [] := fun z => by rw [z] at hl; simp at hl
    have e := List.dropLast_concat_getLast ne
    obtain ⟨s, t, hst⟩ : ∃ s t, s ++ [t] = r := ⟨_, _, e⟩
    subst hst
    have hs : s.length = n := by simpa using hl
    have nd := List.nodup_append.mp P.nd
    have tn : t ∉ s := fun z => nd.2.2 t z t (by simp) rfl
    have tr := P.rg t (by simp)
    have pm := pref_perm P hl
    let f : Int → Int := fun x => if t < x then x - 1 else x
    have mono : ∀ x ∈ s, ∀ y ∈ s, (f x < f y ↔ x < y) := fun x hx y hy => by
      have h1 : x ≠ t := fun z => tn (z ▸ hx)
      have h2 : y ≠ t := fun z => tn (z ▸ hy)
      show ((if t < x then x - 1 else x) < (if t < y then y - 1 else y)) ↔ _
      split <;> split <;> omega
    have P2 : Pref n (s.map f) := ⟨by
      refine List.Pairwise.map f (R := fun a b => a ∈ s ∧ b ∈ s ∧ a ≠ b) (fun a b h => ?_) ?_
      · intro z
        have m1 := mono a h.1 b h.2.1
        have m2 := mono b h.2.1 a h.1
        have := h.2.2
        omega
      · exact List.Pairwise.and_mem.mp nd.1 |>.imp fun {a b} h => ⟨h.1, h.2.1, h.2.2⟩, fun y hy => by
      obtain ⟨x, hx, rfl⟩ := List.mem_map.mp hy
      have h1 : x ≠ t := fun z => tn (z ▸ hx)
      have h2 := P.rg x (by simp [hx])
      show 0 ≤ (if t < x then x - 1 else x) ∧ (if t < x then x - 1 else x) < _
      split <;> omega⟩
    have ih := rowBy_ranks n (s.map f) P2 (by rw [List.length_map]; exact hs)
    have rk : ranksIn (s.map f) = ranksIn s := by
      rw [ranks_rk, ranks_rk]
      exact rkB_map f s [] (by simpa using mono)
    rw [rk] at ih
    have tv : ((s.countP fun z => decide (z < t) : Nat) : Int) = t := by
      have c1 : (s ++ [t]).countP (fun z => decide (z < t)) = (rgN 0 (n + 1)).countP (fun z => decide (z < t)) := pm.countP_eq _
      have c2 : (rgN 0 (n + 1)).countP (fun z => decide (z < t)) = t.toNat := by
        rw [List.countP_eq_length_filter]
        have : (rgN 0 (n + 1)).filter (fun z => decide (z < t)) = rgN 0 t.toNat := by
          have e : (rgN 0 (n + 1)).filter (fun z => decide (z < t)) = (rgN 0 (n + 1)).filter (inSp (0, t - 1)) := List.filter_congr fun z hz => by
            have := mem_rgN.mp hz
            rw [Bool.eq_iff_iff]
            simp only [inSp, Bool.and_eq_true, decide_eq_true_eq]
            omega
          rw [e, filter_span 0 (t - 1) (n + 1) 0 (by omega) (by omega)]
          congr 1
          omega
        rw [this, rgN_len]
      rw [List.countP_append] at c1
      simp at c1
      omega
    rw [ranks_snoc, rowBy_snoc, ih, tv]
    unfold stepR
    congr 1
    rw [List.map_map]
    have : ∀ x ∈ s, (bump t ∘ f) x = x := fun x hx => by
      have h1 : x ≠ t := fun z => tn (z ▸ hx)
      show (if (if t < x then x - 1 else x) ≥ t then (if t < x then x - 1 else x) + 1 else (if t < x then x - 1 else x)) = x
      split <;> split <;> omega
    rw [List.map_congr_left this, List.map_id']
theorem ranks_valid (r : List Int) : Valid (ranksIn r) := fun i x hx => by
  have hi : i < r.length := by
    have := (List.getElem?_eq_some_iff.mp hx).1
    rwa [ranksIn_len] at this
  have := ranksIn_get hi
  have e : (ranksIn r).getD i 0 = x := by simp [List.getD, hx]
  rw [e] at this
  have le := List.length_filter_le (fun y => decide (y < r[i])) (r.take i)
  rw [List.length_take] at le
  omega
/-! how many -/
theorem allK_nodup : ∀ n, (allK n).Nodup
  | 0 => by unfold allK; simp
  | n + 1 => by
    unfold allK nextK
    refine List.pairwise_flatMap.mpr ⟨fun rs _ => ?_, ?_⟩
    · refine List.Pairwise.map _ (R := (· ≠ ·)) (fun a b h z => ?_) (rgN_nodup 0 (n + 1))
      have := List.append_cancel_left z
      simp at this
      exact h this
    · refine (allK_nodup n).imp fun {a b} h x hx y hy z => ?_
      obtain ⟨p, _, rfl⟩ := List.mem_map.mp hx
      obtain ⟨q, _, rfl⟩ := List.mem_map.mp hy
      exact h (List.append_inj_left' z rfl)
def keptRows (n : Nat) (H L : Wl) : List (List Int) := dfs n H L n []
theorem root_mem {n : Nat} {H L : Wl} {r : List Int} : r ∈ keptRows n H L ↔ Pref n r ∧ r.length = n ∧ keptF (ranksIn r) H L = true := by
  unfold keptRows
  rw [dfs_mem n H L n [] ⟨List.Pairwise.nil, fun y h => by cases h⟩ (by simp) rfl]
  constructor
  · rintro ⟨_, h⟩; exact h
  · intro h; exact ⟨⟨r, by simp⟩, h⟩
theorem kept_perm (n : Nat) (H L : Wl) : (keptRows n H L).Perm (((allK n).filter fun rs => keptF rs H L).map rowBy) := by
  refine (List.perm_ext_iff_of_nodup (dfs_nodup n H L n []) ?_).mpr fun r => ?_
  · have nd : ((allK n).filter fun rs => keptF rs H L).Nodup := (allK_nodup n).filter _
    refine List.Pairwise.map rowBy (R := fun a b => a ∈ allK n ∧ b ∈ allK n ∧ a ≠ b) (fun a b h z => h.2.2 ?_) ?_
    · have va := ((allK_mem n a).mp h.1).1
      have vb := ((allK_mem n b).mp h.2.1).1
      rw [← ranks_rowBy a va, ← ranks_rowBy b vb, z]
    · exact List.Pairwise.and_mem.mp nd |>.imp fun {a b} h => ⟨(List.mem_filter.mp h.1).1, (List.mem_filter.mp h.2.1).1, h.2.2⟩
  · rw [show r ∈ dfs n H L n [] ↔ _ from root_mem, List.mem_map]
    constructor
    · rintro ⟨P, hl, hk⟩
      exact ⟨ranksIn r, List.mem_filter.mpr ⟨(allK_mem n _).mpr ⟨ranks_valid r, by rw [ranksIn_len]; exact hl⟩, hk⟩, rowBy_ranks n r P hl⟩
    · rintro ⟨rs, hrs, rfl⟩
      obtain ⟨m, k⟩ := List.mem_filter.mp hrs
      obtain ⟨v, l⟩ := (allK_mem n rs).mp m
      refine ⟨?_, by rw [rowBy_len]; exact l, by rw [ranks_rowBy rs v]; exact k⟩
      have pm := rowBy_perm rs v
      rw [l] at pm
      exact ⟨pm.nodup_iff.mpr (rgN_nodup 0 n), fun y hy => by have := mem_rgN.mp (pm.mem_iff.mp hy); omega⟩
theorem kept_total (n : Nat) (H L : Wl) : ((keptRows n H L).length : Int) = prodF (spansF n H L) := by
  rw [(kept_perm n H L).length_eq, List.length_map]
  exact count_rows H L n
theorem kept_sorted (n : Nat) (H L : Wl) : (sortRows (allR n)).filter (fun row => keptF (ranksIn row) H L) = keptRows n H L := by
  have p1 : ((sortRows (allR n)).filter fun row => keptF (ranksIn row) H L).Perm (keptRows n H L) := by
    refine ((sortRows_perm (allR n)).filter _).trans ?_
    rw [allR_eq, List.filter_map]
    have e : ((allK n).filter ((fun row => keptF (ranksIn row) H L) ∘ rowBy)) = (allK n).filter fun rs => keptF rs H L := List.filter_congr fun rs hrs => by
      show keptF (ranksIn (rowBy rs)) H L = _
      rw [ranks_rowBy rs ((allK_mem n rs).mp hrs).1]
    rw [e]
    exact (kept_perm n H L).symm
  refine List.Perm.eq_of_pairwise (le := fun a b : List Int => a ≤ b) (fun a b _ _ h1 h2 => List.le_antisymm h1 h2) ?_ ?_ p1
  · have := List.pairwise_mergeSort (le := fun p q : List Int => decide (p ≤ q)) (fun a b c h1 h2 => by
      rw [decide_eq_true_eq] at h1 h2 ⊢
      exact List.le_trans h1 h2) (fun a b => by
      rw [Bool.or_eq_true, decide_eq_true_eq, decide_eq_true_eq]
      exact List.le_total a b) (allR n)
    exact (this.imp fun {a b} h => of_decide_eq_true h).filter _
  · exact (dfs_sorted n H L n []).imp fun {a b} h => List.not_lt.mp (List.lt_asymm h)
end DL
/-! the row of a number, and the number of a row -/
namespace DL
open PySem L2
def cntB (n : Nat) (H L : Wl) (s : List Int) : Nat := if keptF (ranksIn s) H L then (dfs n H L (n - s.length) s).length else 0
def pickF (c : Int → Nat) : List Int → Nat → Option (Int × Nat)
  | [], _ => none
  | t :: ts, m => if m < c t then some (t, m) else pickF c ts (m - c t)
theorem pick_flat (g : Int → List (List Int)) (c : Int → Nat) : ∀ (xs : List Int) (m : Nat) (r : List Int), (∀ t ∈ xs, c t = (g t).length) → (xs.flatMap g)[m]? = some r → ∃ t j, pickF c xs m = some (t, j) ∧ t ∈ xs ∧ (g t)[j]? = some r
  | [], m, r, _, h => by simp at h
  | t :: ts, m, r, hc, h => by
    rw [List.flatMap_cons] at h
    rw [pickF, hc t List.mem_cons_self]
    by_cases e : m < (g t).length
    · rw [if_pos e]
      rw [List.getElem?_append_left e] at h
      exact ⟨t, m, rfl, List.mem_cons_self, h⟩
    · rw [if_neg e]
      rw [List.getElem?_append_right (by omega)] at h
      obtain ⟨t2, j, h1, h2, h3⟩ := pick_flat g c ts _ r (fun x hx => hc x (List.mem_cons_of_mem _ hx)) h
      exact ⟨t2, j, h1, List.mem_cons_of_mem _ h2, h3⟩
theorem cnt_snoc {n : Nat} {H L : Wl} {k : Nat} {s : List Int} {t : Int} (hl : s.length + (k + 1) = n) (hk : keptF (ranksIn s) H L = true) (ht : t ∈ cand n s) : cntB n H L (s ++ [t]) = (if goodAt H L s t then dfs n H L k (s ++ [t]) else []).length := by
  unfold cntB
  rw [kept_snoc (cand_mem.mp ht).2, hk, Bool.true_and]
  have : n - (s ++ [t]).length = k := by simp; omega
  rw [this]
  split <;> rfl
/-- one place of the row of a number -/
theorem at_step {n : Nat} {H L : Wl} {k : Nat} {s r : List Int} {m : Nat} (hl : s.length + (k + 1) = n) (P : Pref n s) (hk : keptF (ranksIn s) H L = true) (h : (dfs n H L (k + 1) s)[m]? = some r) : ∃ t j, pickF (fun t => cntB n H L (s ++ [t])) (cand n s) m = some (t, j) ∧ t ∈ cand n s ∧ keptF (ranksIn (s ++ [t])) H L = true ∧ (dfs n H L k (s ++ [t]))[j]? = some r := by
  rw [dfs] at h
  obtain ⟨t, j, h1, h2, h3⟩ := pick_flat _ (fun t => cntB n H L (s ++ [t])) _ m r (fun t ht => cnt_snoc hl hk ht) h
  refine ⟨t, j, h1, h2, ?_⟩
  split at h3
  · rename_i g
    refine ⟨?_, h3⟩
    rw [kept_snoc (cand_mem.mp h2).2, hk, g]
    rfl
  · simp at h3
theorem flat_index (g : Int → List (List Int)) : ∀ (xs : List Int) (t : Int) (j : Nat) (r : List Int), xs.Pairwise (· < ·) → t ∈ xs → (g t)[j]? = some r → (xs.flatMap g)[((xs.filter fun x => decide (x < t)).map fun x => (g x).length).sum + j]? = some r
  | [], t, j, r, _, h, _ => by cases h
  | x :: xs, t, j, r, hs, h, hj => by
    obtain ⟨h1, h2⟩ := List.pairwise_cons.mp hs
    rw [List.flatMap_cons]
    rcases List.mem_cons.mp h with rfl | h
    · have e : (t :: xs).filter (fun x => decide (x < t)) = [] := List.filter_eq_nil_iff.mpr fun u hu => by
        rcases List.mem_cons.mp hu with rfl | hu
        · simp
        · have := h1 u hu; simp; omega
      rw [e, List.map_nil, List.sum_nil, Nat.zero_add, List.getElem?_append_left (List.getElem?_eq_some_iff.mp hj).1]
      exact hj
    · have hx := h1 t h
      rw [List.filter_cons, if_pos (decide_eq_true hx), List.map_cons, List.sum_cons, List.getElem?_append_right (by omega)]
      have := flat_index g xs t j r h2 h hj
      rw [← this]
      congr 1
      omega
def numK (n : Nat) (H L : Wl) : List Int → List Int → Nat
  | _, [] => 0
  | s, t :: u => (((cand n s).filter fun x => decide (x < t)).map fun x => cntB n H L (s ++ [x])).sum + numK n H L (s ++ [t]) u
theorem num_dfs (n : Nat) (H L : Wl) : ∀ (u s : List Int), Pref n (s ++ u) → (s ++ u).length = n → keptF (ranksIn (s ++ u)) H L = true → (dfs n H L u.length s)[numK n H L s u]? = some (s ++ u)
  | [], s, P, hl, hk => by rw [List.length_nil, dfs, numK, List.append_nil]; rfl
  | t :: u, s, P, hl, hk => by
    have e : s ++ t :: u = (s ++ [t]) ++ u := by simp
    have tn : t ∉ s := fun z => (List.nodup_append.mp P.nd).2.2 t z t (by simp) rfl
    have tc : t ∈ cand n s := cand_mem.mpr ⟨P.rg t (by simp), tn⟩
    have ks := kept_pre hk
    have k2 : keptF (ranksIn (s ++ [t])) H L = true := by rw [e] at hk; exact kept_pre hk
    have g : goodAt H L s t = true := by
      rw [kept_snoc tn, Bool.and_eq_true] at k2
      exact k2.2
    have ih := num_dfs n H L u (s ++ [t]) (by rw [← e]; exact P) (by rw [← e]; exact hl) (by rw [← e]; exact hk)
    rw [List.length_cons, dfs, numK, e]
    have := flat_index (fun t => if goodAt H L s t then dfs n H L u.length (s ++ [t]) else []) (cand n s) t (numK n H L (s ++ [t]) u) (s ++ [t] ++ u) (cand_sorted n s) tc (by rw [if_pos g]; exact ih)
    rw [← this]
    congr 3
    refine List.map_congr_left fun x hx => ?_
    exact cnt_snoc (by simp at hl; omega) ks (List.mem_filter.mp hx).1
theorem num_kept {n : Nat} {H L : Wl} {r : List Int} (h : r ∈ keptRows n H L) : (keptRows n H L)[numK n H L [] r]? = some r := by
  obtain ⟨P, hl, hk⟩ := root_mem.mp h
  have := num_dfs n H L r [] P hl hk
  rw [hl] at this
  exact this
theorem num_at {n : Nat} {H L : Wl} {r : List Int} {i : Nat} (h : (keptRows n H L)[i]? = some r) : numK n H L [] r = i := by
  have h2 := num_kept (List.mem_of_getElem? h)
  have nd := dfs_nodup n H L n []
  have l1 := (List.getElem?_eq_some_iff.mp h2)
  have l2 := (List.getElem?_eq_some_iff.mp h)
  obtain ⟨a1, a2⟩ := l1
  obtain ⟨b1, b2⟩ := l2
  exact (List.getElem_inj (h₀ := a1) (h₁ := b1) nd).mp (a2.trans b2.symm)
theorem kept_lt {n : Nat} {H L : Wl} {r q : List Int} {i : Nat} (h : (keptRows n H L)[i]? = some r) (h2 : (keptRows n H L)[i + 1]? = some q) : HT.lexLt r q = true := by
  rw [lex_lt, decide_eq_true_eq]
  obtain ⟨a1, a2⟩ := List.getElem?_eq_some_iff.mp h
  obtain ⟨b1, b2⟩ := List.getElem?_eq_some_iff.mp h2
  rw [← a2, ← b2]
  exact List.pairwise_iff_getElem.mp (dfs_sorted n H L n []) i (i + 1) a1 b1 (by omega)
theorem cnt_way {n : Nat} {H L : Wl} {s : List Int} (hne : s ≠ []) (P : Pref n s) (hl : s.length ≤ n) : cntB n H L s = if keptF (ranksIn s) H L then wayK H L n (n - s.length) (abv n s).length (blw n s).length else 0 := by
  unfold cntB
  rw [dfs_len n H L (n - s.length) s hne P (by omega)]
end DL
namespace K05
open DL PySem L2 ML
def S_told_at : SEnv → R Out :=
  (sRet (eIf (bE (eOp oIs (eVar 0) (eC .non))) (eC .non) (eOp oInX (eVar 1) (eVar 0))))
def m_told_at : List D → R D := runX 2 S_told_at
def T_ways_1 (m_ways : List MV → Sto → T MV) : SM :=
  (mSeq (mIf (bF2 (bAnd (bE (eOp oIsNotX (eVar 7) (eC (.bl true)))) (bAnd (bE (eOp oIsNotX (eVar 8) (eC (.bl true)))) (bE (eOp oGt (eVar 9) (eC (.int 0)))))))
  (mAug 10 oAddI (xOpS oMul (xV 9) (xCall (callM 6 m_ways) (yCons (xV 0) (yCons (xV 1) (yCons (xH (eOp oAdd (eVar 2) (eC (.int 1)))) (yCons (xV 3) (yCons (xV 4) (yCons (xV 5) yNil)))))))))
  mNext)
  (mDPut (xV 5) (xV 6) (xV 10)))
def T_ways_2 (m_ways : List MV → Sto → T MV) : SM :=
  (mSeq (mIf (bF2 (bAnd (bE (eOp oIsNotX (eVar 8) (eC (.bl false)))) (bE (eOp oIsNotX (eVar 7) (eC (.bl true))))))
  (mAug 10 oAddI (xCallS oSum (yCons (xLcD (eCallN rg1 (aCons (eVar 4) aNil)) (.nm 11) (xCall (callM 6 m_ways) (yCons (xV 0) (yCons (xV 1) (yCons (xH (eOp oAdd (eVar 2) (eC (.int 1)))) (yCons (xV 3) (yCons (xV 11) (yCons (xV 5) yNil))))))) [11]) yNil)))
  mNext)
  (T_ways_1 m_ways))
def T_ways_3 (m_ways : List MV → Sto → T MV) : SM :=
  (mSeq (mIf (bF2 (bAnd (bE (eOp oIsNotX (eVar 7) (eC (.bl false)))) (bE (eOp oIsNotX (eVar 8) (eC (.bl true))))))
  (mAug 10 oAddI (xCallS oSum (yCons (xLcD (eCallN rg1 (aCons (eVar 3) aNil)) (.nm 11) (xCall (callM 6 m_ways) (yCons (xV 0) (yCons (xV 1) (yCons (xH (eOp oAdd (eVar 2) (eC (.int 1)))) (yCons (xV 11) (yCons (xV 4) (yCons (xV 5) yNil))))))) [11]) yNil)))
  mNext)
  (T_ways_2 m_ways))
def T_ways_4 (m_ways : List MV → Sto → T MV) : SM :=
  (mSeq (mPar [9, 10] (yCons (xH (eOp oSub (eOp oSub (eOp oSub (eVar 0) (eVar 2)) (eVar 3)) (eVar 4))) (yCons (xH (eC (.int 0))) yNil)))
  (T_ways_3 m_ways))
def T_ways_5 (m_ways : List MV → Sto → T MV) : SM :=
  (mSeq (mIf (bM (xDNotIn (xV 6) (xV 5)))
  (mSeq (mPar [7, 8] (yCons (xH (eCall (callF 2 m_told_at) (aCons (eOp oIx (eVar 1) (eC (.int 0))) (aCons (eVar 2) aNil)))) (yCons (xH (eCall (callF 2 m_told_at) (aCons (eOp oIx (eVar 1) (eC (.int 1))) (aCons (eVar 2) aNil)))) yNil)))
  (T_ways_4 m_ways))
  mNext)
  (mRet (xDGet (xV 5) (xV 6))))
def T_ways_6 (m_ways : List MV → Sto → T MV) : SM :=
  (mSeq (mAsg 6 (xH (eTup (aCons (eVar 2) (aCons (eVar 3) (aCons (eVar 4) aNil))))))
  (T_ways_5 m_ways))
def S_ways (m_ways : List MV → Sto → T MV) : SM :=
  (mSeq (mIf (bF2 (bE (eOp oEq (eVar 2) (eVar 0))))
  (mRet (xH (eC (.int 1))))
  mNext)
  (T_ways_6 m_ways))
def m_waysF : Nat → List MV → Sto → T MV
  | 0 => fun _ _ => .bad
  | n + 1 => runM 12 (S_ways (m_waysF n))
def m_ways : List MV → Sto → T MV := m_waysF 13
def T_ways_behind_1 : SM :=
  (mIf (bF2 (bOr (bE (eOp oNotInX (eCall (callF 2 m_told_at) (aCons (eOp oIx (eVar 1) (eC (.int 0))) (aCons (eVar 4) aNil))) (eTup (aCons (eC .non) (aCons (eVar 6) aNil))))) (bE (eOp oNotInX (eCall (callF 2 m_told_at) (aCons (eOp oIx (eVar 1) (eC (.int 1))) (aCons (eVar 4) aNil))) (eTup (aCons (eC .non) (aCons (eVar 7) aNil)))))))
  (mRet (xH (eC (.int 0))))
  mNext)
def T_ways_behind_2 : SM :=
  (mSeq (mAsg 7 (xH (eOr (eOp oEq (eVar 4) (eC (.int 0))) (eOp oLt (eVar 5) (eCall oMin (aCons (eNew (eSl (eVar 2) pNo (pSome (eVar 4)))) aNil))))))
  T_ways_behind_1)
def B_ways_behind_1 : SM :=
  (mSeq (mAsg 6 (xH (eOr (eOp oEq (eVar 4) (eC (.int 0))) (eOp oGt (eVar 5) (eCall oMax (aCons (eNew (eSl (eVar 2) pNo (pSome (eVar 4)))) aNil))))))
  T_ways_behind_2)
def T_ways_behind_3 : SM :=
  (mRet (xCall (callM 6 m_ways) (yCons (xV 0) (yCons (xV 1) (yCons (xH (eCall oLen (aCons (eVar 2) aNil))) (yCons (xV 9) (yCons (xV 10) (yCons (xV 3) yNil))))))))
def T_ways_behind_4 : SM :=
  (mSeq (mPar [9, 10] (yCons (xH (eCall oLen (aCons (eNew (eLc (iOf (eVar 8)) (.nm 11) (bE (eOp oGt (eVar 11) (eCall oMax (aCons (eVar 2) aNil)))) (eVar 11) [11])) aNil))) (yCons (xH (eCall oLen (aCons (eNew (eLc (iOf (eVar 8)) (.nm 11) (bE (eOp oLt (eVar 11) (eCall oMin (aCons (eVar 2) aNil)))) (eVar 11) [11])) aNil))) yNil)))
  T_ways_behind_3)
def T_ways_behind_5 : SM :=
  (mSeq (mAsg 8 (xH (eNew (eLc (eCallN rg1 (aCons (eVar 0) aNil)) (.nm 5) (bE (eOp oNotInX (eVar 5) (eVar 2))) (eVar 5) [5]))))
  T_ways_behind_4)
def S_ways_behind : SM :=
  (mSeq (mFor (iEn (eVar 2)) (.tp (.cons (.nm 4) (.cons (.nm 5) .nil)))
  B_ways_behind_1)
  T_ways_behind_5)
def m_ways_behind : List MV → Sto → T MV := runM 12 S_ways_behind
def T_row_at_1 : SM :=
  (mSeq (mIf (bF2 (bE (eOp oLt (eVar 2) (eVar 7))))
  (mSeq (mExpr (xApp (xV 3) (xV 6)))
  mBreak)
  mNext)
  (mAug 2 oSub (xV 7)))
def B_row_at_1 : SM :=
  (mSeq (mAsg 7 (xCall (callM 4 m_ways_behind) (yCons (xV 0) (yCons (xV 1) (yCons (xFN (eOpN oCat (eVar 3) (eNew (eLst (aCons (eVar 6) aNil))))) (yCons (xV 4) yNil))))))
  T_row_at_1)
def B_row_at_2 : SM :=
  (mForE (xFN (eLc (eCallN rg1 (aCons (eVar 0) aNil)) (.nm 8) (bE (eOp oNotInX (eVar 8) (eVar 3))) (eVar 8) [8])) (.nm 6)
  B_row_at_1)
def T_row_at_2 : SM :=
  (mSeq (mFor (eCallN rg1 (aCons (eVar 0) aNil)) (.nm 5)
  B_row_at_2)
  (mRet (xV 3)))
def S_row_at : SM :=
  (mSeq (mPar [3, 4] (yCons (xNH (eLst aNil)) (yCons xDNewT yNil)))
  T_row_at_2)
def q_row_at : List MV → Sto → T MV := runM 9 S_row_at
def m_row_at : List D → R (List D) := purN q_row_at
def T_row_by_1 : SEnv → R Out :=
  (sRetN (eCallN (callF 3 m_row_at) (aCons (eVar 0) (aCons (eVar 1) (aCons (eVar 2) aNil)))))
def T_row_by_2 : SEnv → R Out :=
  (sSeq (sIf (bNot (bE (eCall (callF 3 m_is_between) (aCons (eVar 2) (aCons (eC (.int 0)) (aCons (eOp oSub (eVar 3) (eC (.int 1))) aNil))))))
  (sRaise "BadNumber")
  sNext)
  T_row_by_1)
def T_row_by_3 : SEnv → R Out :=
  (sSeq (sIf (bE (eOp oGt (eVar 0) (eC (.int 12))))
  (sRaise "TooMany")
  sNext)
  T_row_by_2)
def S_row_by : SEnv → R Out :=
  (sSeq (sAsgH 3 (eCall (callF 2 m_how_many) (aCons (eVar 0) (aCons (eVar 1) aNil))))
  T_row_by_3)
def m_row_by : List D → R (List D) := runN 4 S_row_by
def B_number_of_1 : SM :=
  (mIf (bF2 (bE (eOp oNotInX (eVar 6) (eNew (eSl (eVar 0) pNo (pSome (eVar 4)))))))
  (mAug 2 oAddI (xCall (callM 4 m_ways_behind) (yCons (xH (eCall oLen (aCons (eVar 0) aNil))) (yCons (xV 1) (yCons (xH (eNew (eOpN oCat (eNew (eSl (eVar 0) pNo (pSome (eVar 4)))) (eNew (eLst (aCons (eVar 6) aNil)))))) (yCons (xV 3) yNil))))))
  mNext)
def B_number_of_2 : SM :=
  (mFor (eCallN rg1 (aCons (eVar 5) aNil)) (.nm 6)
  B_number_of_1)
def T_number_of_1 : SM :=
  (mSeq (mFor (iEn (eVar 0)) (.tp (.cons (.nm 4) (.cons (.nm 5) .nil)))
  B_number_of_2)
  (mRet (xV 2)))
def T_number_of_2 : SM :=
  (mSeq (mPar [2, 3] (yCons (xH (eC (.int 0))) (yCons xDNewT yNil)))
  T_number_of_1)
def T_number_of_3 : SM :=
  (mSeq (mIf (bF2 (bNot (bE (eCall (callF 2 m_is_kept) (aCons (eVar 0) (aCons (eVar 1) aNil))))))
  (mRaise "NotKept")
  mNext)
  T_number_of_2)
def T_number_of_4 : SM :=
  (mSeq (mIf (bF2 (bE (eOp oGt (eCall oLen (aCons (eVar 0) aNil)) (eC (.int 12)))))
  (mRaise "TooMany")
  mNext)
  T_number_of_3)
def T_number_of_5 : SM :=
  (mSeq (mExpr (xH (eCall (callF 2 m_check_wish) (aCons (eCall oLen (aCons (eVar 0) aNil)) (aCons (eVar 1) aNil)))))
  T_number_of_4)
def S_number_of : SM :=
  (mSeq (mExpr (xH (eCall (callF 1 m_check_row) (aCons (eVar 0) aNil))))
  T_number_of_5)
def q_number_of : List MV → Sto → T MV := runM 7 S_number_of
def m_number_of : List D → R D := purX q_number_of
def T_next_one_1 : SEnv → R Out :=
  (sIf (bE (eOp oLt (eVar 2) (eCall (callF 2 m_how_many) (aCons (eCall oLen (aCons (eVar 0) aNil)) (aCons (eVar 1) aNil))))) (sRetN (eCallN (callF 3 m_row_at) (aCons (eCall oLen (aCons (eVar 0) aNil)) (aCons (eVar 1) (aCons (eVar 2) aNil))))) (sRet (eC .non)))
def S_next_one : SEnv → R Out :=
  (sSeq (sAsgH 2 (eOp oAdd (eCall (callF 2 m_number_of) (aCons (eVar 0) (aCons (eVar 1) aNil))) (eC (.int 1))))
  T_next_one_1)
def mO_next_one : List D → R (Option (List D)) := runO 3 S_next_one
def m_next_one : List D → R D := optX mO_next_one
def T__law_one_right_1 : SEnv → R Out :=
  (sRet (eAnd (eOp oEq (eVar 5) (eNew (eCallN (callF 3 m_row_by) (aCons (eVar 0) (aCons (eVar 1) (aCons (eOp oAdd (eVar 2) (eC (.int 1))) aNil)))))) (eAnd (eOp oGtX (eVar 5) (eVar 6)) (eOp oEq (eCall (callF 2 m_next_one) (aCons (eVar 6) (aCons (eVar 1) aNil))) (eVar 5)))))
def T__law_one_right_2 : SEnv → R Out :=
  (sSeq (sAsgN 6 (eCallN oList (aCons (eVar 4) aNil)))
  (sSeq (sRev 4)
  T__law_one_right_1))
def T__law_one_right_3 : SEnv → R Out :=
  (sSeq (sIf (bE (eOp oEq (eVar 2) (eOp oSub (eVar 3) (eC (.int 1)))))
  (sRet (eOp oIs (eVar 5) (eC .non)))
  sNext)
  T__law_one_right_2)
def T__law_one_right_4 : SEnv → R Out :=
  (sSeq (sAsgO 5 (eCallO (callF 2 mO_next_one) (aCons (eVar 4) (aCons (eVar 1) aNil))))
  T__law_one_right_3)
def T__law_one_right_5 : SEnv → R Out :=
  (sSeq (sIf (bOr (bE (eOp oNe (eNew (eCallN oSorted (aCons (eVar 4) aNil))) (eNew (eUnN (oRange (.int 0)) (eVar 0))))) (bOr (bNot (bE (eCall (callF 2 m__law_kept) (aCons (eVar 4) (aCons (eVar 1) aNil))))) (bE (eOp oNe (eCall (callF 2 m_number_of) (aCons (eVar 4) (aCons (eVar 1) aNil))) (eVar 2)))))
  (sRet (eC (.bl false)))
  sNext)
  T__law_one_right_4)
def S__law_one_right : SEnv → R Out :=
  (sSeq (sAsgNH 4 (eCallN (callF 3 m_row_by) (aCons (eVar 0) (aCons (eVar 1) (aCons (eVar 2) aNil)))))
  T__law_one_right_5)
def m__law_one_right : List D → R D := runX 7 S__law_one_right
def T_law_1 : SEnv → R Out :=
  (sIf (bAnd (bE (eOp oGe (eVar 7) (eC (.int 0)))) (bE (eOp oNe (eCall (callF 2 m_number_of) (aCons (eOp oIx (eVar 6) (eVar 7)) (aCons (eVar 5) aNil))) (eVar 7))))
  (sRet (eC (.bl false)))
  sNext)
def B_law_1 : SEnv → R Out :=
  (sSeq (sIf (bAnd (bE (eOp oGe (eVar 7) (eC (.int 0)))) (bE (eOp oNe (eNew (eCallN (callF 3 m_row_by) (aCons (eVar 2) (aCons (eVar 5) (aCons (eVar 7) aNil))))) (eOp oIx (eVar 6) (eVar 7)))))
  (sRet (eC (.bl false)))
  sNext)
  T_law_1)
def T_law_2 : SEnv → R Out :=
  (sIf (bNot (bE (eCall oAll (aCons (eNew (eLc (iOf (eVar 11)) (.nm 7) bYes (eCall (callF 4 m__law_one_right) (aCons (eVar 8) (aCons (eVar 9) (aCons (eVar 7) (aCons (eVar 10) aNil))))) [7])) aNil))))
  (sRet (eC (.bl false)))
  sNext)
def T_law_3 : SEnv → R Out :=
  (sSeq (sAsgH 11 (eIf (bE (eOp oEq (eVar 10) (eC (.int 0)))) (eNew (eLst aNil)) (eNew (eUnN oSSet (eNew (eLst (aCons (eOp oSub (eVar 10) (eC (.int 1))) (aCons (eOp oMod (eVar 1) (eVar 10)) aNil))))))))
  T_law_2)
def T_law_4 : SEnv → R Out :=
  (sSeq (sAsgH 10 (eCall (callF 2 m_how_many) (aCons (eVar 8) (aCons (eVar 9) aNil))))
  T_law_3)
def T_law_5 : SEnv → R Out :=
  (sSeq (sAsgH 9 (eCall (callF 3 m__law_drawn_wish) (aCons (eVar 0) (aCons (eOp oAdd (eVar 4) (eC (.int 2))) (aCons (eVar 8) aNil)))))
  T_law_4)
def T_law_6 : SEnv → R Out :=
  (sSeq (sAsgH 8 (eOp oAdd (eC (.int 6)) (eOp oMod (eOp oFdiv (eVar 1) (eOp oAdd (eC (.int 3)) (eVar 4))) (eIf (bE (eOp oEq (eVar 4) (eC (.int 0)))) (eC (.int 7)) (eC (.int 3))))))
  T_law_5)
def T_law_7 : SEnv → R Out :=
  (sSeq (sFor (iOf (eNew (eUnN oSSet (eNew (eOpN oCat (eNew (eLc (eCallN rg1 (aCons (eCall oLen (aCons (eVar 6) aNil)) aNil)) (.nm 13) (bE (eOp oEq (eOp oMod (eVar 13) (eC (.int 7))) (eC (.int 0)))) (eVar 13) [13])) (eNew (eLst (aCons (eOp oSub (eCall oLen (aCons (eVar 6) aNil)) (eC (.int 1))) aNil)))))))) (.nm 7)
  B_law_1)
  T_law_6)
def T_law_8 : SEnv → R Out :=
  (sSeq (sAsgH 6 (eNew (eLc (iOf (eVar 3)) (.nm 12) (bE (eCall (callF 2 m__law_kept) (aCons (eVar 12) (aCons (eVar 5) aNil)))) (eVar 12) [12])))
  T_law_7)
def B_law_2 : SEnv → R Out :=
  (sSeq (sAsgH 5 (eCall (callF 3 m__law_drawn_wish) (aCons (eVar 0) (aCons (eVar 4) (aCons (eVar 2) aNil)))))
  T_law_8)
def T_law_9 : SEnv → R Out :=
  (sRet (eOp oEq (eCall (callF 2 m_number_of) (aCons (eNew (eUnN oRev (eNew (eUnN (oRange (.int 0)) (eC (.int 12)))))) (aCons (eTup (aCons (eC .non) (aCons (eC .non) aNil))) aNil))) (eC (.int 479001599))))
def T_law_10 : SEnv → R Out :=
  (sSeq (sIf (bE (eOp oNe (eNew (eCallN (callF 3 m_row_by) (aCons (eC (.int 12)) (aCons (eTup (aCons (eC .non) (aCons (eC .non) aNil))) (aCons (eC (.int 0)) aNil))))) (eNew (eUnN (oRange (.int 0)) (eC (.int 12))))))
  (sRet (eC (.bl false)))
  sNext)
  T_law_9)
def T_law_11 : SEnv → R Out :=
  (sSeq (sIf (bOr (bE (eOp oNe (eNew (eCallN (callF 3 m_row_by) (aCons (eC (.int 3)) (aCons (eTup (aCons (eNew (eLst (aCons (eC (.int 0)) (aCons (eC (.int 2)) aNil)))) (aCons (eNew (eLst (aCons (eC (.int 0)) (aCons (eC (.int 1)) aNil)))) aNil))) (aCons (eC (.int 0)) aNil))))) (eNew (eLst (aCons (eC (.int 1)) (aCons (eC (.int 0)) (aCons (eC (.int 2)) aNil))))))) (bE (eOp oIsNot (eCall (callF 2 m_next_one) (aCons (eNew (eLst (aCons (eC (.int 1)) (aCons (eC (.int 0)) (aCons (eC (.int 2)) aNil))))) (aCons (eTup (aCons (eNew (eLst (aCons (eC (.int 0)) (aCons (eC (.int 2)) aNil)))) (aCons (eNew (eLst (aCons (eC (.int 0)) (aCons (eC (.int 1)) aNil)))) aNil))) aNil))) (eC .non))))
  (sRet (eC (.bl false)))
  sNext)
  T_law_10)
def T_law_12 : SEnv → R Out :=
  (sSeq (sFor (eCallN rg1 (aCons (eC (.int 2)) aNil)) (.nm 4)
  B_law_2)
  T_law_11)
def T_law_13 : SEnv → R Out :=
  (sSeq (sAsgH 3 (eNew (eCallN (callF 1 m__law_all_rows) (aCons (eVar 2) aNil))))
  T_law_12)
def T_law_14 : SEnv → R Out :=
  (sSeq (sAsgH 2 (eOp oAdd (eC (.int 1)) (eOp oMod (eVar 1) (eC (.int 5)))))
  T_law_13)
def S_law : SEnv → R Out :=
  (sSeq (sAsgH 1 (eCall oAbs (aCons (eCall oSum (aCons (eNew (eSl (eVar 0) pNo (pSome (eC (.int 63))))) aNil)) aNil)))
  T_law_14)
def m_law : List D → R D := runX 14 S_law
/-! told -/
def toldD (W : Wl) (p : Int) : D := match W with
  | none => .non
  | some xs => .bl (decide (p ∈ xs))
theorem ev_told (W : Wl) (p : Int) : m_told_at [wD W, .int p] = .ok (toldD W p) := by
  cases W with
  | none => rfl
  | some xs =>
    unfold m_told_at runX S_told_at
    simp [initS, wD, inX_ints, toldD]
theorem told_not (W : Wl) (p : Int) (c : Bool) : oIsNotX (toldD W p) (.bl c) = .ok (.bl (hlB W p (!c))) := by
  cases W with
  | none => rfl
  | some xs =>
    show oIsNot (.bl (decide (p ∈ xs))) (.bl c) = .ok (.bl (decide (p ∈ xs) == !c))
    cases decide (p ∈ xs) <;> cases c <;> rfl
theorem told_in (W : Wl) (p : Int) (c : Bool) : oNotInX (toldD W p) (.tup [.non, .bl c]) = .ok (.bl (!hlB W p c)) := by
  cases W with
  | none => cases c <;> rfl
  | some xs =>
    show oNotInX (.bl (decide (p ∈ xs))) _ = .ok (.bl (!(decide (p ∈ xs) == c)))
    cases decide (p ∈ xs) <;> cases c <;> rfl
/-! the dict of the ways -/
abbrev KV := List (List Key × V)
def keyN (p a b : Nat) : List Key := [.inl (p : Int), .inl (a : Int), .inl (b : Int)]
def KG (n : Nat) (H L : Wl) (kvs : KV) : Prop := (kvs.map (·.1)).Nodup ∧ ∀ kv ∈ kvs, ∃ p a b : Nat, p ≤ n ∧ a ≤ n ∧ b ≤ n ∧ kv = (keyN p a b, V.int (wayK H L n (n - p) a b))
def keysN (n : Nat) : List (List Key) := (List.range (n + 1)).flatMap fun p => (List.range (n + 1)).flatMap fun a => (List.range (n + 1)).map fun b => keyN p a b
theorem keysN_len (n : Nat) (h : n ≤ 12) : (keysN n).length ≤ 2197 := by
  have : (keysN n).length = (n + 1) * ((n + 1) * (n + 1)) := by simp [keysN, List.length_flatMap, List.map_const', List.sum_replicate_nat]
  rw [this]
  have h1 : (n + 1) * (n + 1) ≤ 13 * 13 := Nat.mul_le_mul (by omega) (by omega)
  exact Nat.mul_le_mul (n₁ := n + 1) (m₁ := (n + 1) * (n + 1)) (n₂ := 13) (m₂ := 169) (by omega) h1
theorem KG.len {n : Nat} {H L : Wl} {kvs : KV} (g : KG n H L kvs) (h : n ≤ 12) : kvs.length < 100000 := by
  have := List.Nodup.length_le_of_subset (l₂ := keysN n) g.1 (fun k hk => by
    obtain ⟨kv, hkv, rfl⟩ := List.mem_map.mp hk
    obtain ⟨p, a, b, h1, h2, h3, rfl⟩ := g.2 kv hkv
    unfold keysN
    rw [List.mem_flatMap]
    refine ⟨p, List.mem_range.mpr (by omega), List.mem_flatMap.mpr ⟨a, List.mem_range.mpr (by omega), List.mem_map.mpr ⟨b, List.mem_range.mpr (by omega), rfl⟩⟩⟩)
  have l := keysN_len n h
  rw [List.length_map] at this
  omega
theorem keyN_inj {p a b q c d : Nat} (h : keyN p a b = keyN q c d) : p = q ∧ a = c ∧ b = d := by
  unfold keyN at h
  simp at h
  omega
theorem KG.val {n : Nat} {H L : Wl} {kvs : KV} (g : KG n H L kvs) {p a b : Nat} : valV kvs (keyN p a b) = none ∨ valV kvs (keyN p a b) = some (V.int (wayK H L n (n - p) a b)) := by
  unfold valV
  cases hf : kvs.find? (fun kv => decide (kv.1 = keyN p a b)) with
  | none => exact .inl rfl
  | some kv =>
    right
    have hm := List.mem_of_find?_eq_some hf
    have hk : kv.1 = keyN p a b := by simpa using List.find?_some hf
    obtain ⟨q, c, d, _, _, _, rfl⟩ := g.2 kv hm
    obtain ⟨rfl, rfl, rfl⟩ := keyN_inj hk
    rfl
theorem KG.put {n : Nat} {H L : Wl} {kvs : KV} (g : KG n H L kvs) {p a b : Nat} (hp : p ≤ n) (ha : a ≤ n) (hb : b ≤ n) : KG n H L (putK kvs (keyN p a b) (V.int (wayK H L n (n - p) a b))) ∧ valV (putK kvs (keyN p a b) (V.int (wayK H L n (n - p) a b))) (keyN p a b) = some (V.int (wayK H L n (n - p) a b)) := by
  have hv : ∃ v, valV (putK kvs (keyN p a b) (V.int (wayK H L n (n - p) a b))) (keyN p a b) = some v := by
    unfold putK
    split
    · rename_i h
      obtain ⟨kv, hm, he⟩ := List.any_eq_true.mp h
      unfold valV
      refine Option.isSome_iff_exists.mp ?_
      rw [Option.isSome_map, List.find?_isSome]
      refine ⟨_, List.mem_map.mpr ⟨kv, hm, rfl⟩, ?_⟩
      rw [if_pos (of_decide_eq_true he)]
      exact he
    · unfold valV
      refine Option.isSome_iff_exists.mp ?_
      rw [Option.isSome_map, List.find?_isSome]
      exact ⟨_, List.mem_append.mpr (Or.inr (List.mem_singleton.mpr rfl)), by simp⟩
  have kg : KG n H L (putK kvs (keyN p a b) (V.int (wayK H L n (n - p) a b))) := by
    unfold putK
    split
    · have e : kvs.map (fun kv => if kv.1 = keyN p a b then (kv.1, V.int (wayK H L n (n - p) a b)) else kv) = kvs := by
        refine (List.map_congr_left fun kv hkv => ?_).trans (List.map_id kvs)
        obtain ⟨q, c, d, _, _, _, rfl⟩ := g.2 kv hkv
        split
        · rename_i hk
          obtain ⟨rfl, rfl, rfl⟩ := keyN_inj hk
          rfl
        · rfl
      rw [e]
      exact g
    · rename_i h
      refine ⟨?_, fun kv hkv => ?_⟩
      · rw [List.map_append]
        refine List.nodup_append.mpr ⟨g.1, by simp, fun x hx y hy e => h ?_⟩
        obtain ⟨kv, hm, rfl⟩ := List.mem_map.mp hx
        have hy : y = keyN p a b := by simpa using hy
        exact List.any_eq_true.mpr ⟨kv, hm, by rw [e, hy]; simp⟩
      · rcases List.mem_append.mp hkv with z | z
        · exact g.2 kv z
        · exact ⟨p, a, b, hp, ha, hb, List.mem_singleton.mp z⟩
  refine ⟨kg, ?_⟩
  obtain ⟨v, e⟩ := hv
  rcases kg.val (p := p) (a := a) (b := b) with z | z
  · rw [z] at e; cases e
  · exact z
def WI (n : Nat) (H L : Wl) (μ0 : Sto) (i : Nat) (μ : Sto) : Prop := ∃ kvs, KG n H L kvs ∧ μ = μ0.set i (.raw (.dT kvs))
theorem lcM_inv {ρ : MEnv} {j : Nat} {te : EM} (I : Sto → Prop) (h : Int → Int) : ∀ (xs : List Int) (μ : Sto), (∀ x ∈ xs, ∀ μ, I μ → ∃ μ', I μ' ∧ te (ρ.set j (some (.da (.int x)))) μ = .ok (.da (.int (h x))) μ') → I μ → ∃ μ', I μ' ∧ lcM (.nm j) te ρ (xs.map D.int) μ = .ok (((xs.map h).map D.int).map .da) μ'
  | [], μ, _, i => ⟨μ, i, rfl⟩
  | x :: xs, μ, hx, i => by
    obtain ⟨μ1, i1, h1⟩ := hx x List.mem_cons_self μ i
    obtain ⟨μ2, i2, h2⟩ := lcM_inv I h xs μ1 (fun y hy => hx y (List.mem_cons_of_mem _ hy)) i1
    refine ⟨μ2, i2, ?_⟩
    rw [List.map_cons, lcM]
    simp only [ap_tgNm, List.map_cons, List.map_nil, setM_cons, setM_nil, h1, noErrM, h2, T.bind_ok]
end K05
namespace K05
open DL PySem L2 ML
theorem fz_da (d : D) : MV.fz (.da d) = some d := rfl
theorem fz_hd (i : Nat) : MV.fz (.hd i) = none := rfl
theorem callM_6 {α : Type} (q : List MV → Sto → T α) (a b c d e f : MV) (μ : Sto) : callM 6 q [a, b, c, d, e, f] μ = q [a, b, c, d, e, f] μ := rfl
theorem sum_rg (g : Nat → Nat) (a : Nat) : ((rgN 0 a).map fun x => ((g x.toNat : Nat) : Int)).sum = (((List.range a).map g).sum : Nat) := by
  unfold rgN
  rw [List.map_map]
  generalize List.range a = l
  induction l with
  | nil => rfl
  | cons x l ih =>
    rw [List.map_cons, List.sum_cons, List.map_cons, List.sum_cons, ih]
    simp
theorem rg_nat {a : Nat} (h : a ≤ 1000) : rg1 [.int (a : Int)] = .ok ((rgN 0 a).map D.int) := by
  rw [rg1_ok (by omega)]
  rfl
section
variable {n : Nat} {H L : Wl} {μ0 : Sto} {i : Nat} {q : List MV → Sto → T MV} {k p : Nat}
abbrev EW (n : Nat) (H L : Wl) (i p a b : Nat) (x6 x7 x8 x9 x10 x11 : Option MV) : MEnv := [some (.da (.int n)), some (.da (Wi H L)), some (.da (.int p)), some (.da (.int a)), some (.da (.int b)), some (.hd i), x6, x7, x8, x9, x10, x11]
def Rec (n : Nat) (H L : Wl) (μ0 : Sto) (i : Nat) (q : List MV → Sto → T MV) (k p : Nat) : Prop := ∀ (a b : Nat) (μ : Sto), a ≤ n → b ≤ n → WI n H L μ0 i μ → ∃ μ', WI n H L μ0 i μ' ∧ q [.da (.int n), .da (Wi H L), .da (.int ((p : Int) + 1)), .da (.int a), .da (.int b), .hd i] μ = .ok (.da (.int (wayK H L n k a b : Nat))) μ'
theorem callS_sum (ns : List Int) (μ : Sto) : callS oSum [.da (.lst (ns.map D.int))] μ = .ok (.da (.int ns.sum)) μ := by
  rw [callS_ok (ds := [.lst (ns.map D.int)]) (by simp [optAll, snap_da])]
  simp
theorem up3 (hn : n ≤ 12) (hr : Rec n H L μ0 i q k p) (a b : Nat) (ha : a ≤ n) (hb : b ≤ n) (v : Int) (x6 x9 x11 : Option MV) (μ : Sto) (w : WI n H L μ0 i μ) :
    ∃ μ', WI n H L μ0 i μ' ∧ (mIf (bF2 (bAnd (bE (eOp oIsNotX (eVar 7) (eC (.bl false)))) (bE (eOp oIsNotX (eVar 8) (eC (.bl true))))))
  (mAug 10 oAddI (xCallS oSum (yCons (xLcD (eCallN rg1 (aCons (eVar 3) aNil)) (.nm 11) (xCall (callM 6 q) (yCons (xV 0) (yCons (xV 1) (yCons (xH (eOp oAdd (eVar 2) (eC (.int 1)))) (yCons (xV 11) (yCons (xV 4) (yCons (xV 5) yNil))))))) [11]) yNil)))
  mNext) (EW n H L i p a b x6 (some (.da (toldD H p))) (some (.da (toldD L p))) x9 (some (.da (.int v))) x11) μ = .ok (.nx (EW n H L i p a b x6 (some (.da (toldD H p))) (some (.da (toldD L p))) x9 (some (.da (.int (v + (if hlB H p true && hlB L p false then ((List.range a).map fun m => wayK H L n k m b).sum else 0 : Nat))))) x11)) μ' := by
  have c : (bF2 (bAnd (bE (eOp oIsNotX (eVar 7) (eC (.bl false)))) (bE (eOp oIsNotX (eVar 8) (eC (.bl true))))) : MEnv → Sto → T Bool) (EW n H L i p a b x6 (some (.da (toldD H p))) (some (.da (toldD L p))) x9 (some (.da (.int v))) x11) μ = .ok (hlB H p true && hlB L p false) μ := by
    simp only [ap_bF2, snE_cons, ap_bAnd, ap_bE, ap_Op, var_s, ap_C, Option.bind_some, snap_da, var_0, R.bind_ok, told_not, ap_asB, Bool.not_true, Bool.not_false]
    cases hlB H p true <;> rfl
  rw [ap_mIf, c, T.bind_ok]
  cases hc : (hlB H p true && hlB L p false) with
  | false =>
    refine ⟨μ, w, ?_⟩
    simp
  | true =>
    obtain ⟨μ1, w1, e⟩ := lcM_inv (ρ := EW n H L i p a b x6 (some (.da (toldD H p))) (some (.da (toldD L p))) x9 (some (.da (.int v))) none) (j := 11) (te := xCall (callM 6 q) (yCons (xV 0) (yCons (xV 1) (yCons (xH (eOp oAdd (eVar 2) (eC (.int 1)))) (yCons (xV 11) (yCons (xV 4) (yCons (xV 5) yNil))))))) (WI n H L μ0 i) (fun x => (wayK H L n k x.toNat b : Nat)) (rgN 0 a) μ (fun x hx ν wν => by
      have hx := mem_rgN.mp hx
      obtain ⟨ν', w', e⟩ := hr x.toNat b ν (by omega) hb wν
      refine ⟨ν', w', ?_⟩
      rw [show ((x.toNat : Nat) : Int) = x by omega] at e
      simp only [List.set_cons_succ, List.set_cons_zero, ap_xCall, ap_yCons, ap_yNil, xV_0, xV_s, ap_xH, hdM_cons, Option.bind_some, fz_da, fz_hd, hdM_nil, ap_Op, var_s, var_0, R.bind_ok, ap_C, add_int, up_ok, T.bind_ok]
      rw [callM_6]
      exact e) w
    refine ⟨μ1, w1, ?_⟩
    rw [if_pos rfl, if_pos rfl]
    simp only [ap_mAug, ap_xOp, xV_0, xV_s, T.bind_ok, ap_xCallS, ap_yCons, ap_yNil, ap_xLcD, hdM_cons, Option.bind_some, fz_da, fz_hd, hdM_nil, ap_CallN, ap_aCons, ap_aNil, var_s, var_0, R.bind_ok, rg_nat (show a ≤ 1000 by omega), up_ok, List.length_map, rgN_len, if_pos (show a ≤ 100000 by omega), wipeM_cons, wipeM_nil, List.set_cons_succ, List.set_cons_zero, e, lcEnd_ints, callS_sum, opM_da, addI_int, sum_rg (fun m => wayK H L n k m b)]
theorem up2 (hn : n ≤ 12) (hr : Rec n H L μ0 i q k p) (a b : Nat) (ha : a ≤ n) (hb : b ≤ n) (v : Int) (x6 x9 x11 : Option MV) (μ : Sto) (w : WI n H L μ0 i μ) :
    ∃ μ', WI n H L μ0 i μ' ∧ (mIf (bF2 (bAnd (bE (eOp oIsNotX (eVar 8) (eC (.bl false)))) (bE (eOp oIsNotX (eVar 7) (eC (.bl true))))))
  (mAug 10 oAddI (xCallS oSum (yCons (xLcD (eCallN rg1 (aCons (eVar 4) aNil)) (.nm 11) (xCall (callM 6 q) (yCons (xV 0) (yCons (xV 1) (yCons (xH (eOp oAdd (eVar 2) (eC (.int 1)))) (yCons (xV 3) (yCons (xV 11) (yCons (xV 5) yNil))))))) [11]) yNil)))
  mNext) (EW n H L i p a b x6 (some (.da (toldD H p))) (some (.da (toldD L p))) x9 (some (.da (.int v))) x11) μ = .ok (.nx (EW n H L i p a b x6 (some (.da (toldD H p))) (some (.da (toldD L p))) x9 (some (.da (.int (v + (if hlB L p true && hlB H p false then ((List.range b).map fun m => wayK H L n k a m).sum else 0 : Nat))))) x11)) μ' := by
  have c : (bF2 (bAnd (bE (eOp oIsNotX (eVar 8) (eC (.bl false)))) (bE (eOp oIsNotX (eVar 7) (eC (.bl true))))) : MEnv → Sto → T Bool) (EW n H L i p a b x6 (some (.da (toldD H p))) (some (.da (toldD L p))) x9 (some (.da (.int v))) x11) μ = .ok (hlB L p true && hlB H p false) μ := by
    simp only [ap_bF2, snE_cons, ap_bAnd, ap_bE, ap_Op, var_s, ap_C, Option.bind_some, snap_da, var_0, R.bind_ok, told_not, ap_asB, Bool.not_true, Bool.not_false]
    cases hlB L p true <;> rfl
  rw [ap_mIf, c, T.bind_ok]
  cases hc : (hlB L p true && hlB H p false) with
  | false =>
    refine ⟨μ, w, ?_⟩
    simp
  | true =>
    obtain ⟨μ1, w1, e⟩ := lcM_inv (ρ := EW n H L i p a b x6 (some (.da (toldD H p))) (some (.da (toldD L p))) x9 (some (.da (.int v))) none) (j := 11) (te := xCall (callM 6 q) (yCons (xV 0) (yCons (xV 1) (yCons (xH (eOp oAdd (eVar 2) (eC (.int 1)))) (yCons (xV 3) (yCons (xV 11) (yCons (xV 5) yNil))))))) (WI n H L μ0 i) (fun x => (wayK H L n k a x.toNat : Nat)) (rgN 0 b) μ (fun x hx ν wν => by
      have hx := mem_rgN.mp hx
      obtain ⟨ν', w', e⟩ := hr a x.toNat ν ha (by omega) wν
      refine ⟨ν', w', ?_⟩
      rw [show ((x.toNat : Nat) : Int) = x by omega] at e
      simp only [List.set_cons_succ, List.set_cons_zero, ap_xCall, ap_yCons, ap_yNil, xV_0, xV_s, ap_xH, hdM_cons, Option.bind_some, fz_da, fz_hd, hdM_nil, ap_Op, var_s, var_0, R.bind_ok, ap_C, add_int, up_ok, T.bind_ok]
      rw [callM_6]
      exact e) w
    refine ⟨μ1, w1, ?_⟩
    rw [if_pos rfl, if_pos rfl]
    simp only [ap_mAug, ap_xOp, xV_0, xV_s, T.bind_ok, ap_xCallS, ap_yCons, ap_yNil, ap_xLcD, hdM_cons, Option.bind_some, fz_da, fz_hd, hdM_nil, ap_CallN, ap_aCons, ap_aNil, var_s, var_0, R.bind_ok, rg_nat (show b ≤ 1000 by omega), up_ok, List.length_map, rgN_len, if_pos (show b ≤ 100000 by omega), wipeM_cons, wipeM_nil, List.set_cons_succ, List.set_cons_zero, e, lcEnd_ints, callS_sum, opM_da, addI_int, sum_rg (fun m => wayK H L n k a m)]
theorem up1 (hn : n ≤ 12) (hk : p + (k + 1) = n) (hr : Rec n H L μ0 i q k p) (a b : Nat) (ha : a ≤ n) (hb : b ≤ n) (v : Int) (x6 x11 : Option MV) (μ : Sto) (w : WI n H L μ0 i μ) :
    ∃ μ', WI n H L μ0 i μ' ∧ (mIf (bF2 (bAnd (bE (eOp oIsNotX (eVar 7) (eC (.bl true)))) (bAnd (bE (eOp oIsNotX (eVar 8) (eC (.bl true)))) (bE (eOp oGt (eVar 9) (eC (.int 0)))))))
  (mAug 10 oAddI (xOpS oMul (xV 9) (xCall (callM 6 q) (yCons (xV 0) (yCons (xV 1) (yCons (xH (eOp oAdd (eVar 2) (eC (.int 1)))) (yCons (xV 3) (yCons (xV 4) (yCons (xV 5) yNil)))))))))
  mNext) (EW n H L i p a b x6 (some (.da (toldD H p))) (some (.da (toldD L p))) (some (.da (.int ((n : Int) - p - a - b)))) (some (.da (.int v))) x11) μ = .ok (.nx (EW n H L i p a b x6 (some (.da (toldD H p))) (some (.da (toldD L p))) (some (.da (.int ((n : Int) - p - a - b)))) (some (.da (.int (v + (if hlB H p false && hlB L p false then (k + 1 - a - b) * wayK H L n k a b else 0 : Nat))))) x11)) μ' := by
  have c : (bF2 (bAnd (bE (eOp oIsNotX (eVar 7) (eC (.bl true)))) (bAnd (bE (eOp oIsNotX (eVar 8) (eC (.bl true)))) (bE (eOp oGt (eVar 9) (eC (.int 0)))))) : MEnv → Sto → T Bool) (EW n H L i p a b x6 (some (.da (toldD H p))) (some (.da (toldD L p))) (some (.da (.int ((n : Int) - p - a - b)))) (some (.da (.int v))) x11) μ = .ok (hlB H p false && hlB L p false && decide (0 < (n : Int) - p - a - b)) μ := by
    simp only [ap_bF2, snE_cons, ap_bAnd, ap_bE, ap_Op, var_s, ap_C, Option.bind_some, snap_da, var_0, R.bind_ok, told_not, ap_asB, Bool.not_true, Bool.not_false]
    cases hlB H p false <;> cases hlB L p false <;> simp
  rw [ap_mIf, c, T.bind_ok]
  cases hc : (hlB H p false && hlB L p false) with
  | false =>
    refine ⟨μ, w, ?_⟩
    simp
  | true =>
    by_cases hb : 0 < (n : Int) - p - a - b
    · obtain ⟨μ1, w1, e⟩ := hr a b μ ha (by omega) w
      refine ⟨μ1, w1, ?_⟩
      rw [decide_eq_true hb, Bool.true_and, if_pos rfl, if_pos rfl]
      have hm : oMul (.int ((n : Int) - p - a - b)) (.int ((wayK H L n k a b : Nat) : Int)) = .ok (.int (((n : Int) - p - a - b) * ((wayK H L n k a b : Nat) : Int))) := mul_int (Or.inl (by omega))
      simp only [ap_mAug, ap_xOp, ap_xOpS, xV_0, xV_s, T.bind_ok, ap_xCall, ap_yCons, ap_yNil, ap_xH, hdM_cons, Option.bind_some, fz_da, fz_hd, hdM_nil, ap_Op, var_s, var_0, R.bind_ok, ap_C, add_int, up_ok]
      rw [callM_6, e]
      simp only [T.bind_ok, opS_da, hm, up_ok, flatK_int, opM_da, addI_int, List.set_cons_succ, List.set_cons_zero]
      rw [show (n : Int) - p - a - b = ((k + 1 - a - b : Nat) : Int) by omega, ← Int.natCast_mul]
    · refine ⟨μ, w, ?_⟩
      rw [decide_eq_false hb, Bool.and_false, if_neg Bool.false_ne_true, if_pos rfl, show k + 1 - a - b = 0 by omega, Nat.zero_mul]
      simp

theorem key_run (p a b : Nat) : tupKey (.tup [.int (p : Int), .int (a : Int), .int (b : Int)]) = some (keyN p a b) := rfl
theorem WI.get (hi : i < μ0.length) {μ : Sto} (w : WI n H L μ0 i μ) : ∃ kvs, KG n H L kvs ∧ μ[i]? = some (.raw (.dT kvs)) ∧ (∀ kvs', KG n H L kvs' → WI n H L μ0 i (μ.set i (.raw (.dT kvs')))) := by
  obtain ⟨kvs, g, rfl⟩ := w
  refine ⟨kvs, g, List.getElem?_set_self hi, fun kvs' g' => ⟨kvs', g', ?_⟩⟩
  rw [List.set_set]
theorem WI.lt (hi : i < μ0.length) {μ : Sto} (w : WI n H L μ0 i μ) : i < μ.length := by
  obtain ⟨kvs, g, rfl⟩ := w
  rw [List.length_set]
  exact hi
theorem dGet_at {μ : Sto} {kvs : KV} (h : μ[i]? = some (.raw (.dT kvs))) (p a b : Nat) : dGet (.hd i) (.da (.tup [.int (p : Int), .int (a : Int), .int (b : Int)])) μ = .ok (valV kvs (keyN p a b)) μ := by
  unfold dGet
  simp only [h, key_run]
theorem dPut_at {μ : Sto} {kvs : KV} (h : μ[i]? = some (.raw (.dT kvs))) (p a b : Nat) (z : Int) (hl : kvs.length < 100000) : dPut (.hd i) (.da (.tup [.int (p : Int), .int (a : Int), .int (b : Int)])) (.da (.int z)) μ = .ok () (μ.set i (.raw (.dT (putK kvs (keyN p a b) (.int z))))) := by
  unfold dPut
  simp only [h, key_run, if_pos hl]
abbrev spotM (p a b : Nat) : Option MV := some (.da (.tup [.int (p : Int), .int (a : Int), .int (b : Int)]))
theorem ways_in (hn : n ≤ 12) (hi : i < μ0.length) (hk : p + (k + 1) = n) (hr : Rec n H L μ0 i q k p) (a b : Nat) (ha : a ≤ n) (hb : b ≤ n) (x7 x8 x9 x10 x11 : Option MV) (μ : Sto) (w : WI n H L μ0 i μ) :
    ∃ μ', WI n H L μ0 i μ' ∧ T_ways_5 q (EW n H L i p a b (spotM p a b) x7 x8 x9 x10 x11) μ = .ok (.rt (.da (.int (wayK H L n (k + 1) a b : Nat)))) μ' := by
  obtain ⟨kvs, g, hc, _⟩ := w.get hi
  have ep : n - p = k + 1 := by omega
  have ep2 : n - (k + 1) = p := by omega
  have dg := dGet_at hc p a b
  rcases g.val (p := p) (a := a) (b := b) with z | z
  · rw [z] at dg
    obtain ⟨μ1, w1, e1⟩ := up3 hn hr a b ha hb 0 (spotM p a b) (some (.da (.int ((n : Int) - p - a - b)))) x11 μ w
    obtain ⟨μ2, w2, e2⟩ := up2 hn hr a b ha hb (0 + ((if hlB H p true && hlB L p false then ((List.range a).map fun m => wayK H L n k m b).sum else 0 : Nat) : Int)) (spotM p a b) (some (.da (.int ((n : Int) - p - a - b)))) x11 μ1 w1
    obtain ⟨μ3, w3, e3⟩ := up1 hn hk hr a b ha hb (0 + ((if hlB H p true && hlB L p false then ((List.range a).map fun m => wayK H L n k m b).sum else 0 : Nat) : Int) + ((if hlB L p true && hlB H p false then ((List.range b).map fun m => wayK H L n k a m).sum else 0 : Nat) : Int)) (spotM p a b) x11 μ2 w2
    obtain ⟨kvs3, g3, hc3, hs3⟩ := w3.get hi
    obtain ⟨g4, v4⟩ := g3.put (p := p) (a := a) (b := b) (by omega) ha hb
    rw [ep] at g4 v4
    have ev : (0 + ((if hlB H p true && hlB L p false then ((List.range a).map fun m => wayK H L n k m b).sum else 0 : Nat) : Int) + ((if hlB L p true && hlB H p false then ((List.range b).map fun m => wayK H L n k a m).sum else 0 : Nat) : Int) + ((if hlB H p false && hlB L p false then (k + 1 - a - b) * wayK H L n k a b else 0 : Nat) : Int)) = ((wayK H L n (k + 1) a b : Nat) : Int) := by
      rw [wayK, ep2]
      omega
    rw [ev] at e3
    have w4 := hs3 _ g4
    refine ⟨_, w4, ?_⟩
    have hc4 : (μ3.set i (.raw (.dT (putK kvs3 (keyN p a b) (V.int (wayK H L n (k + 1) a b : Nat))))))[i]? = some (.raw (.dT (putK kvs3 (keyN p a b) (V.int (wayK H L n (k + 1) a b : Nat))))) := List.getElem?_set_self (w3.lt hi)
    have dg4 := dGet_at hc4 p a b
    rw [v4] at dg4
    have s4 : T_ways_4 q (EW n H L i p a b (spotM p a b) (some (.da (toldD H p))) (some (.da (toldD L p))) x9 x10 x11) μ = .ok (.nx (EW n H L i p a b (spotM p a b) (some (.da (toldD H p))) (some (.da (toldD L p))) (some (.da (.int ((n : Int) - p - a - b)))) (some (.da (.int (wayK H L n (k + 1) a b : Nat)))) x11)) (μ3.set i (.raw (.dT (putK kvs3 (keyN p a b) (V.int (wayK H L n (k + 1) a b : Nat)))))) := by
      unfold T_ways_4
      simp only [ap_mSeq, ap_mPar, ap_yCons, ap_yNil, ap_xH, hdM_cons, Option.bind_some, fz_da, fz_hd, hdM_nil, ap_Op, var_s, var_0, R.bind_ok, ap_C, sub_int, up_ok, T.bind_ok, List.length_cons, List.length_nil, setM_cons, setM_nil, List.zip_cons_cons, List.zip_nil_right, List.set_cons_succ, List.set_cons_zero]
      rw [if_pos (by decide), T.bind_ok, thenM_nx]
      unfold T_ways_3
      rw [ap_mSeq, e1, T.bind_ok, thenM_nx]
      unfold T_ways_2
      rw [ap_mSeq, e2, T.bind_ok, thenM_nx]
      unfold T_ways_1
      rw [ap_mSeq, e3, T.bind_ok, thenM_nx]
      simp only [ap_mDPut, xV_0, xV_s, T.bind_ok, dPut_at hc3 p a b _ (g3.len hn)]
    unfold T_ways_5
    simp only [ap_mSeq, ap_mIf, ap_bM, ap_xDNotIn, xV_0, xV_s, T.bind_ok, dg, asBM_bl, Option.isSome_none, Bool.not_false, if_true]
    simp only [ap_mPar, ap_yCons, ap_yNil, ap_xH, hdM_cons, Option.bind_some, fz_da, fz_hd, hdM_nil, ap_Call, ap_aCons, ap_aNil, ap_Op, var_s, var_0, R.bind_ok, ap_C, ix0, ix1, callF_2, ev_told, up_ok, T.bind_ok, List.length_cons, List.length_nil, setM_cons, setM_nil, List.zip_cons_cons, List.zip_nil_right, List.set_cons_succ, List.set_cons_zero]
    rw [if_pos (by decide), T.bind_ok, thenM_nx, s4, T.bind_ok, thenM_nx]
    simp only [ap_mRet, ap_xDGet, xV_0, xV_s, T.bind_ok, dg4, vInt_some]
  · rw [z, ep] at dg
    refine ⟨μ, w, ?_⟩
    unfold T_ways_5
    simp [dg]
end
theorem ev_ways {n : Nat} {H L : Wl} (hn : n ≤ 12) {μ0 : Sto} {i : Nat} (hi : i < μ0.length) : ∀ (k f p a b : Nat) (μ : Sto), k < f → p + k = n → a ≤ n → b ≤ n → WI n H L μ0 i μ → ∃ μ', WI n H L μ0 i μ' ∧ m_waysF f [.da (.int n), .da (Wi H L), .da (.int p), .da (.int a), .da (.int b), .hd i] μ = .ok (.da (.int (wayK H L n k a b : Nat))) μ'
  | k, 0, p, a, b, μ, hf, _, _, _, _ => by omega
  | 0, f + 1, p, a, b, μ, hf, hp, ha, hb, w => by
    refine ⟨μ, w, ?_⟩
    have e : (p : Int) = n := by omega
    unfold m_waysF runM S_ways
    simp [initM, snE_cons, e, wayK, snap_da]
  | k + 1, f + 1, p, a, b, μ, hf, hp, ha, hb, w => by
    have hr : Rec n H L μ0 i (m_waysF f) k p := fun a b μ ha hb w => by
      obtain ⟨μ', w', e⟩ := ev_ways hn hi k f (p + 1) a b μ (by omega) (by omega) ha hb w
      exact ⟨μ', w', e⟩
    obtain ⟨μ', w', e⟩ := ways_in (q := m_waysF f) hn hi hp hr a b ha hb none none none none none μ w
    refine ⟨μ', w', ?_⟩
    have ne : ¬ (p : Int) = n := by omega
    have s1 : m_waysF (f + 1) [.da (.int n), .da (Wi H L), .da (.int p), .da (.int a), .da (.int b), .hd i] μ = (T_ways_5 (m_waysF f) (EW n H L i p a b (spotM p a b) none none none none none) μ).bind outM := by
      conv => lhs; unfold m_waysF runM S_ways T_ways_6
      simp [initM, snE_cons, hdM_cons, ne, snap_da, List.replicate, fz_da]
    rw [s1, e]
    rfl
end K05
namespace K05
open DL PySem L2 ML
theorem hi_max {s : List Int} (h : 0 < s.length) (t : Int) : decide (maxI s < t) = decide (∀ y ∈ s, y < t) := by
  obtain ⟨h1, h2⟩ := maxI_spec s h
  rw [Bool.eq_iff_iff, decide_eq_true_eq, decide_eq_true_eq]
  exact ⟨fun z y hy => by have := h2 y hy; omega, fun z => z _ h1⟩
theorem lo_min {s : List Int} (h : 0 < s.length) (t : Int) : decide (t < minI s) = decide (∀ y ∈ s, t < y) := by
  obtain ⟨h1, h2⟩ := minI_spec s h
  rw [Bool.eq_iff_iff, decide_eq_true_eq, decide_eq_true_eq]
  exact ⟨fun z y hy => by have := h2 y hy; omega, fun z => z _ h1⟩
theorem cut_pre (pre u : List Int) : cutD ((pre ++ u).map D.int) none (some ((pre.length : Nat) : Int)) = pre.map D.int := by
  rw [cut_take, ← List.map_take, List.take_left]
theorem high_at (pre u : List Int) (t : Int) (ρ : DL.Env) (i2 i4 i5 : Nat) (h2 : eVar i2 ρ = .ok (Li (pre ++ u))) (h4 : eVar i4 ρ = .ok (.int (pre.length : Nat))) (h5 : eVar i5 ρ = .ok (.int t)) : eOr (eOp oEq (eVar i4) (eC (.int 0))) (eOp oGt (eVar i5) (eCall oMax (aCons (eNew (eSl (eVar i2) pNo (pSome (eVar i4)))) aNil))) ρ = .ok (.bl (decide (∀ y ∈ pre, y < t))) := by
  simp only [ap_Or, ap_Op, ap_C, ap_Call, ap_aCons, ap_aNil, ap_New, ap_Sl, ap_pNo, ap_pSome, h2, h4, h5, R.bind_ok, oEq_int, ap_asB, ap_asI, sl_lst, cut_pre, R.map_ok]
  by_cases c : pre = []
  · subst c; simp
  · have hp : 0 < pre.length := List.length_pos_iff.mpr c
    have ne : ¬ ((pre.length : Nat) : Int) = 0 := by omega
    rw [decide_eq_false ne, if_neg Bool.false_ne_true, max_ints hp, R.bind_ok, ← hi_max hp]
    simp
theorem low_at (pre u : List Int) (t : Int) (ρ : DL.Env) (i2 i4 i5 : Nat) (h2 : eVar i2 ρ = .ok (Li (pre ++ u))) (h4 : eVar i4 ρ = .ok (.int (pre.length : Nat))) (h5 : eVar i5 ρ = .ok (.int t)) : eOr (eOp oEq (eVar i4) (eC (.int 0))) (eOp oLt (eVar i5) (eCall oMin (aCons (eNew (eSl (eVar i2) pNo (pSome (eVar i4)))) aNil))) ρ = .ok (.bl (decide (∀ y ∈ pre, t < y))) := by
  simp only [ap_Or, ap_Op, ap_C, ap_Call, ap_aCons, ap_aNil, ap_New, ap_Sl, ap_pNo, ap_pSome, h2, h4, h5, R.bind_ok, oEq_int, ap_asB, ap_asI, sl_lst, cut_pre, R.map_ok]
  by_cases c : pre = []
  · subst c; simp
  · have hp : 0 < pre.length := List.length_pos_iff.mpr c
    have ne : ¬ ((pre.length : Nat) : Int) = 0 := by omega
    rw [decide_eq_false ne, if_neg Bool.false_ne_true, min_ints hp, R.bind_ok, ← lo_min hp]
    simp
abbrev EB (n : Nat) (H L : Wl) (s : List Int) (i : Nat) (x4 x5 x6 x7 x8 x9 x10 x11 : Option MV) : MEnv := [some (.da (.int n)), some (.da (Wi H L)), some (.da (Li s)), some (.hd i), x4, x5, x6, x7, x8, x9, x10, x11]
theorem behind_step (n : Nat) (H L : Wl) (i : Nat) (pre u : List Int) (t : Int) (x6 x7 x8 x9 x10 x11 : Option MV) (μ : Sto) : B_ways_behind_1 (EB n H L (pre ++ u) i (some (.da (.int (pre.length : Nat)))) (some (.da (.int t))) x6 x7 x8 x9 x10 x11) μ = if goodAt H L pre t then .ok (.nx (EB n H L (pre ++ u) i (some (.da (.int (pre.length : Nat)))) (some (.da (.int t))) (some (.da (.bl (decide (∀ y ∈ pre, y < t))))) (some (.da (.bl (decide (∀ y ∈ pre, t < y))))) x8 x9 x10 x11)) μ else .ok (.rt (.da (.int 0))) μ := by
  unfold B_ways_behind_1
  rw [ap_mSeq, ap_mAsg, ap_xH, high_at pre u t _ 2 4 5 (by simp [hdM_cons, fz_da]) (by simp [hdM_cons, fz_da]) (by simp [hdM_cons, fz_da])]
  simp only [up_ok, T.bind_ok, thenM_nx, List.set_cons_succ, List.set_cons_zero]
  unfold T_ways_behind_2
  rw [ap_mSeq, ap_mAsg, ap_xH, low_at pre u t _ 2 4 5 (by simp [hdM_cons, fz_da]) (by simp [hdM_cons, fz_da]) (by simp [hdM_cons, fz_da])]
  simp only [up_ok, T.bind_ok, thenM_nx, List.set_cons_succ, List.set_cons_zero]
  unfold T_ways_behind_1 goodAt
  simp only [ap_mIf, ap_bF2, snE_cons, Option.bind_some, snap_da, ap_bOr, ap_bE, ap_Op, ap_Call, ap_aCons, ap_aNil, ap_Tup, ap_C, var_s, var_0, R.bind_ok, ix0, ix1, callF_2, ev_told, List.length_cons, List.length_nil, if_pos (show (2 : Nat) ≤ 100000 by decide), told_in, ap_asB]
  cases hlB H ((pre.length : Nat) : Int) (decide (∀ y ∈ pre, y < t)) <;> cases hlB L ((pre.length : Nat) : Int) (decide (∀ y ∈ pre, t < y)) <;> simp [told_in]
theorem behind_loop (n : Nat) (H L : Wl) (i : Nat) (x8 x9 x10 x11 : Option MV) (μ : Sto) : ∀ (u pre : List Int) (x4 x5 x6 x7 : Option MV), (pre ++ u).Nodup → keptF (ranksIn pre) H L = true → ∃ f4 f5 f6 f7, forM (.tp (.cons (.nm 4) (.cons (.nm 5) .nil))) B_ways_behind_1 ((u.zipIdx pre.length).map fun p => D.tup [.int (p.2 : Nat), .int p.1]) (EB n H L (pre ++ u) i x4 x5 x6 x7 x8 x9 x10 x11) μ = if keptF (ranksIn (pre ++ u)) H L then .ok (.nx (EB n H L (pre ++ u) i f4 f5 f6 f7 x8 x9 x10 x11)) μ else .ok (.rt (.da (.int 0))) μ
  | [], pre, x4, x5, x6, x7, _, hk => ⟨x4, x5, x6, x7, by rw [List.append_nil, hk]; rfl⟩
  | t :: u, pre, x4, x5, x6, x7, hn, hk => by
    have tn : t ∉ pre := fun z => (List.nodup_append.mp hn).2.2 t z t (by simp) rfl
    have e : pre ++ t :: u = (pre ++ [t]) ++ u := by simp
    have st := behind_step n H L i pre (t :: u) t x6 x7 x8 x9 x10 x11 μ
    rw [List.zipIdx_cons, List.map_cons, forM_cons (as := [(4, .int (pre.length : Nat)), (5, .int t)]) (by simp)]
    simp only [List.map_cons, List.map_nil, setM_cons, setM_nil, List.set_cons_succ, List.set_cons_zero]
    rw [st]
    cases hg : goodAt H L pre t with
    | false =>
      refine ⟨x4, x5, x6, x7, ?_⟩
      have : keptF (ranksIn (pre ++ t :: u)) H L = false := by
        refine Bool.eq_false_iff.mpr fun z => ?_
        rw [e] at z
        have := kept_pre z
        rw [kept_snoc tn, hg, Bool.and_false] at this
        cases this
      rw [this]
      simp
    | true =>
      obtain ⟨f4, f5, f6, f7, r⟩ := behind_loop n H L i x8 x9 x10 x11 μ u (pre ++ [t]) (some (.da (.int (pre.length : Nat)))) (some (.da (.int t))) (some (.da (.bl (decide (∀ y ∈ pre, y < t))))) (some (.da (.bl (decide (∀ y ∈ pre, t < y))))) (by rw [← e]; exact hn) (by rw [kept_snoc tn, hk, hg]; rfl)
      rw [List.length_append, List.length_singleton, ← e] at r
      exact ⟨f4, f5, f6, f7, by rw [if_pos rfl, T.bind_ok, afterM_nx, r]⟩
theorem inX_int (i : Int) (xs : List Int) : inX (.int i) (.lst (xs.map D.int)) = .ok (decide (i ∈ xs)) := by
  have h := inX_ints i xs
  unfold oInX at h
  cases e : inX (.int i) (.lst (xs.map D.int)) with
  | ok b => rw [e, R.bind_ok] at h; simp at h; rw [h]
  | err c => rw [e] at h; cases h
  | bad => rw [e] at h; cases h
theorem notInX_ints (i : Int) (xs : List Int) : oNotInX (.int i) (.lst (xs.map D.int)) = .ok (.bl (!decide (i ∈ xs))) := by
  unfold oNotInX
  rw [inX_int]
  rfl
theorem var_set {ρ : DL.Env} {j : Nat} (h : j < ρ.length) (x : D) : eVar j (ρ.set j (some x)) = .ok x := by
  unfold eVar
  rw [List.getElem?_set_self h]
theorem var_ne {ρ : DL.Env} {i j : Nat} (h : j ≠ i) (x : Option D) : eVar i (ρ.set j x) = eVar i ρ := by
  unfold eVar
  rw [List.getElem?_set_ne h]
theorem lc_left (n : Nat) (s : List Int) (ρ : DL.Env) (i j : Nat) (h2 : eVar i ρ = .ok (Li s)) (hl : j < ρ.length) (hij : j ≠ i) : lcGo (.nm j) (bE (eOp oNotInX (eVar j) (eVar i))) (eVar j) ρ ((rgN 0 n).map D.int) = .ok ((cand n s).map D.int) :=
  lc_nm D.int (fun t => decide (t ∉ s)) D.int (rgN 0 n) (fun y hy => by simp [var_set hl, var_ne hij, h2, notInX_ints]) (fun y _ _ => by simp [var_set hl])
theorem lc_abv (n : Nat) (s : List Int) (hs : 0 < s.length) (ρ : DL.Env) (i j : Nat) (h2 : eVar i ρ = .ok (Li s)) (hl : j < ρ.length) (hij : j ≠ i) : lcGo (.nm j) (bE (eOp oGt (eVar j) (eCall oMax (aCons (eVar i) aNil)))) (eVar j) ρ ((cand n s).map D.int) = .ok ((abv n s).map D.int) :=
  lc_nm D.int (fun t => decide (∀ y ∈ s, y < t)) D.int (cand n s) (fun y hy => by simp only [ap_bE, ap_Op, ap_Call, ap_aCons, ap_aNil, var_set hl, var_ne hij, h2, R.bind_ok, max_ints hs, cmp_int, ap_asB, hi_max hs]) (fun y _ _ => by simp [var_set hl])
theorem lc_blw (n : Nat) (s : List Int) (hs : 0 < s.length) (ρ : DL.Env) (i j : Nat) (h2 : eVar i ρ = .ok (Li s)) (hl : j < ρ.length) (hij : j ≠ i) : lcGo (.nm j) (bE (eOp oLt (eVar j) (eCall oMin (aCons (eVar i) aNil)))) (eVar j) ρ ((cand n s).map D.int) = .ok ((blw n s).map D.int) :=
  lc_nm D.int (fun t => decide (∀ y ∈ s, t < y)) D.int (cand n s) (fun y hy => by simp only [ap_bE, ap_Op, ap_Call, ap_aCons, ap_aNil, var_set hl, var_ne hij, h2, R.bind_ok, min_ints hs, cmp_int, ap_asB, lo_min hs]) (fun y _ _ => by simp [var_set hl])
theorem cand_le (n : Nat) (s : List Int) : (cand n s).length ≤ n := by
  have := List.length_filter_le (fun t => decide (t ∉ s)) (rgN 0 n)
  rw [rgN_len] at this
  exact this
theorem ev_behind {n : Nat} {H L : Wl} (hn : n ≤ 12) {μ0 : Sto} {i : Nat} (hi : i < μ0.length) {s : List Int} (hne : s ≠ []) (P : Pref n s) (μ : Sto) (w : WI n H L μ0 i μ) : ∃ μ', WI n H L μ0 i μ' ∧ m_ways_behind [.da (.int n), .da (Wi H L), .da (Li s), .hd i] μ = .ok (.da (.int (cntB n H L s : Nat))) μ' := by
  have hs : 0 < s.length := List.length_pos_iff.mpr hne
  have hl : s.length ≤ n := by have := cand_len P; omega
  obtain ⟨f4, f5, f6, f7, lp⟩ := behind_loop n H L i none none none none μ s [] none none none none P.nd rfl
  rw [List.nil_append, List.length_nil] at lp
  have en : iEn (eVar 2) (hdM (EB n H L s i none none none none none none none none)) = .ok (s.zipIdx.map fun p => D.tup [.int (p.2 : Nat), .int p.1]) := by
    rw [← enum_zip]
    exact iEn_ints (by simp [hdM_cons, fz_da])
  have s1 : m_ways_behind [.da (.int n), .da (Wi H L), .da (Li s), .hd i] μ = (((if keptF (ranksIn s) H L then T.ok (OutM.nx (EB n H L s i f4 f5 f6 f7 none none none none)) μ else .ok (.rt (.da (.int 0))) μ).bind (thenM T_ways_behind_5)).bind outM) := by
    rw [← lp]
    show ((S_ways_behind (EB n H L s i none none none none none none none none) μ).bind outM) = _
    unfold S_ways_behind
    rw [ap_mSeq, ap_mFor, en, up_ok]
  rw [s1, cnt_way hne P hl]
  cases hk : keptF (ranksIn s) H L with
  | false => exact ⟨μ, w, rfl⟩
  | true =>
    have la : (abv n s).length ≤ n := Nat.le_trans (List.length_filter_le _ _) (cand_le n s)
    have lb : (blw n s).length ≤ n := Nat.le_trans (List.length_filter_le _ _) (cand_le n s)
    obtain ⟨μ1, w1, e⟩ := ev_ways hn hi (n - s.length) 13 s.length (abv n s).length (blw n s).length μ (by omega) (by omega) la lb w
    refine ⟨μ1, w1, ?_⟩
    rw [if_pos rfl, T.bind_ok, thenM_nx, if_pos rfl]
    unfold T_ways_behind_5
    have cl := cand_le n s
    simp only [ap_mSeq, ap_mAsg, ap_xH, hdM_cons, Option.bind_some, fz_da, fz_hd, hdM_nil, ap_New, ap_Lc, ap_CallN, ap_aCons, ap_aNil, var_0, R.bind_ok, rg_nat (show n ≤ 1000 by omega), List.length_map, rgN_len, if_pos (show n ≤ 100000 by omega), wipeD_cons, wipeD_nil, List.set_cons_succ, List.set_cons_zero]
    rw [lc_left n s _ 2 5 (by simp) (by simp) (by decide)]
    simp only [R.map_ok, up_ok, T.bind_ok, thenM_nx]
    unfold T_ways_behind_4
    simp only [ap_mSeq, ap_mPar, ap_yCons, ap_yNil, ap_xH, hdM_cons, Option.bind_some, fz_da, fz_hd, hdM_nil, ap_New, ap_Lc, ap_iOf, ap_Call, ap_aCons, ap_aNil, var_0, var_s, R.bind_ok, it_lst, List.length_map, if_pos (show (cand n s).length ≤ 100000 by omega), wipeD_cons, wipeD_nil, List.set_cons_succ, List.set_cons_zero]
    rw [lc_abv n s hs _ 2 11 (by simp) (by simp) (by decide), lc_blw n s hs _ 2 11 (by simp) (by simp) (by decide)]
    simp only [R.map_ok, R.bind_ok, len_lst, List.length_map, up_ok, T.bind_ok, List.length_cons, List.length_nil, setM_cons, setM_nil, List.zip_cons_cons, List.zip_nil_right, List.set_cons_succ, List.set_cons_zero]
    rw [if_pos (by decide), T.bind_ok, thenM_nx]
    unfold T_ways_behind_3
    simp only [ap_mRet, ap_xCall, ap_yCons, ap_yNil, xV_0, xV_s, ap_xH, hdM_cons, Option.bind_some, fz_da, fz_hd, hdM_nil, ap_Call, ap_aCons, ap_aNil, var_0, var_s, R.bind_ok, len_lst, List.length_map, up_ok, T.bind_ok]
    rw [callM_6]
    unfold m_ways
    rw [e]
    rfl
end K05
namespace K05
open DL PySem L2 ML
abbrev ST (s : List Int) (kvs : KV) : Sto := [Cell.lst ((s.map D.int).map .da), .raw (.dT kvs)]
theorem behind_ST {n : Nat} {H L : Wl} (hn : n ≤ 12) {s' : List Int} (hne : s' ≠ []) (P : Pref n s') (s : List Int) {kvs : KV} (g : KG n H L kvs) : ∃ kvs', KG n H L kvs' ∧ m_ways_behind [.da (.int n), .da (Wi H L), .da (Li s'), .hd 1] (ST s kvs) = .ok (.da (.int (cntB n H L s' : Nat))) (ST s kvs') := by
  obtain ⟨μ', ⟨kvs', g', rfl⟩, e⟩ := ev_behind (μ0 := ST s kvs) (i := 1) hn (by simp) hne P (ST s kvs) ⟨kvs, g, rfl⟩
  exact ⟨kvs', g', e⟩
theorem cat_ints (a b : List Int) (h : a.length + b.length ≤ 100000) : oCat (.lst (a.map D.int)) (.lst (b.map D.int)) = .ok ((a ++ b).map D.int) := by
  show (if (a.map D.int).length + (b.map D.int).length ≤ 100000 then _ else _) = _
  rw [List.length_map, List.length_map, if_pos h, List.map_append]
abbrev ER (n : Nat) (H L : Wl) (m : Int) (x5 x6 x7 : Option MV) : MEnv := [some (.da (.int n)), some (.da (Wi H L)), some (.da (.int m)), some (.hd 0), some (.hd 1), x5, x6, x7, none]
theorem snap_ST (s : List Int) (kvs : KV) : snap (ST s kvs) 3 (.hd 0) = some (Li s) := snap_lst rfl
theorem snap_ST1 (s : List Int) (kvs : KV) : snap (ST s kvs) 3 (.hd 1) = none := rfl
theorem row_step {n : Nat} {H L : Wl} (hn : n ≤ 12) {s : List Int} (P : Pref n s) {t : Int} (ht : t ∈ cand n s) (m : Nat) (x5 x7 : Option MV) {kvs : KV} (g : KG n H L kvs) : ∃ kvs', KG n H L kvs' ∧ (m < cntB n H L (s ++ [t]) → B_row_at_1 (ER n H L m x5 (some (.da (.int t))) x7) (ST s kvs) = .ok (.bk (ER n H L m x5 (some (.da (.int t))) (some (.da (.int (cntB n H L (s ++ [t]) : Nat)))))) (ST (s ++ [t]) kvs')) ∧ (¬ m < cntB n H L (s ++ [t]) → B_row_at_1 (ER n H L m x5 (some (.da (.int t))) x7) (ST s kvs) = .ok (.nx (ER n H L (m - cntB n H L (s ++ [t]) : Nat) x5 (some (.da (.int t))) (some (.da (.int (cntB n H L (s ++ [t]) : Nat)))))) (ST s kvs')) := by
  obtain ⟨kvs', g', e⟩ := behind_ST (H := H) (L := L) hn (s' := s ++ [t]) (by simp) (P.snoc ht) s g
  have sl : s.length ≤ n := by have := cand_len P; omega
  refine ⟨kvs', g', ?_⟩
  have s1 : B_row_at_1 (ER n H L m x5 (some (.da (.int t))) x7) (ST s kvs) = T_row_at_1 (ER n H L m x5 (some (.da (.int t))) (some (.da (.int (cntB n H L (s ++ [t]) : Nat))))) (ST s kvs') := by
    unfold B_row_at_1
    have ca := cat_ints s [t] (by simp; omega)
    rw [List.map_singleton] at ca
    have fl : ((s ++ [t]).map D.int).all flatD = true := flats_ints _
    simp only [ap_mSeq, ap_mAsg, ap_xCall, ap_yCons, ap_yNil, xV_0, xV_s, ap_xFN, snE_cons, Option.bind_some, snap_da, snap_ST, snap_ST1, ap_OpN, ap_New, ap_Lst, ap_aCons, ap_aNil, var_s, var_0, R.bind_ok, List.length_cons, List.length_nil, if_pos (show (0 + 1 : Nat) ≤ 100000 by decide), R.map_ok, ca, up_ok, fl, if_true, T.bind_ok, callM_4, e, thenM_nx, List.set_cons_succ, List.set_cons_zero]
  rw [s1]
  refine ⟨fun c => ?_, fun c => ?_⟩
  · have c' : ((m : Nat) : Int) < ((cntB n H L (s ++ [t]) : Nat) : Int) := by omega
    have ap : appM (.hd 0) (.da (.int t)) (ST s kvs') = .ok (.da .non) (ST (s ++ [t]) kvs') := by
      show (if ((s.map D.int).map MV.da).length < 100000 then _ else _) = _
      rw [if_pos (by simp; omega)]
      simp [ST]
    unfold T_row_at_1
    simp only [ap_mSeq, ap_mIf, ap_bF2, snE_cons, Option.bind_some, snap_da, ap_bE, ap_Op, var_s, var_0, R.bind_ok, cmp_int, decide_eq_true c', ap_asB, up_ok, T.bind_ok, if_true, ap_mExpr, ap_xApp, xV_0, xV_s]
    have il : isLst (.hd 0) (ST s kvs') = .ok () (ST s kvs') := rfl
    rw [il, T.bind_ok, ap, T.bind_ok, T.bind_ok, thenM_nx, ap_mBreak, T.bind_ok, thenM_bk]
  · have c' : ¬ ((m : Nat) : Int) < ((cntB n H L (s ++ [t]) : Nat) : Int) := by omega
    unfold T_row_at_1
    simp only [ap_mSeq, ap_mIf, ap_bF2, snE_cons, Option.bind_some, snap_da, ap_bE, ap_Op, var_s, var_0, R.bind_ok, cmp_int, decide_eq_false c', ap_asB, up_ok, T.bind_ok, if_neg Bool.false_ne_true, ap_mNext, thenM_nx, ap_mAug, ap_xOp, xV_0, xV_s, opM_da, sub_int, List.set_cons_succ, List.set_cons_zero]
    rw [show ((m : Nat) : Int) - ((cntB n H L (s ++ [t]) : Nat) : Int) = ((m - cntB n H L (s ++ [t]) : Nat) : Int) by omega]
theorem row_inner {n : Nat} {H L : Wl} (hn : n ≤ 12) {s : List Int} (P : Pref n s) {t : Int} {j : Nat} : ∀ (ts : List Int) (m : Nat) (x5 x6 x7 : Option MV) (kvs : KV), (∀ t ∈ ts, t ∈ cand n s) → KG n H L kvs → pickF (fun t => cntB n H L (s ++ [t])) ts m = some (t, j) → ∃ kvs' f6 f7, KG n H L kvs' ∧ forM (.nm 6) B_row_at_1 (ts.map D.int) (ER n H L m x5 x6 x7) (ST s kvs) = .ok (.nx (ER n H L j x5 f6 f7)) (ST (s ++ [t]) kvs')
  | [], m, x5, x6, x7, kvs, _, _, h => by cases h
  | y :: ts, m, x5, x6, x7, kvs, hc, g, h => by
    obtain ⟨kvs1, g1, s1, s2⟩ := row_step hn P (hc y List.mem_cons_self) m x5 x7 g
    rw [pickF] at h
    rw [List.map_cons, forM_cons (as := [(6, .int y)]) (by simp)]
    simp only [List.map_cons, List.map_nil, setM_cons, setM_nil, List.set_cons_succ, List.set_cons_zero]
    by_cases c : m < cntB n H L (s ++ [y])
    · rw [if_pos c] at h
      cases h
      exact ⟨kvs1, _, _, g1, by rw [s1 c, T.bind_ok, afterM_bk]⟩
    · rw [if_neg c] at h
      obtain ⟨kvs2, f6, f7, g2, e⟩ := row_inner hn P ts (m - cntB n H L (s ++ [y])) x5 (some (.da (.int y))) (some (.da (.int (cntB n H L (s ++ [y]) : Nat)))) kvs1 (fun z hz => hc z (List.mem_cons_of_mem _ hz)) g1 h
      exact ⟨kvs2, f6, f7, g2, by rw [s2 c, T.bind_ok, afterM_nx, e]⟩
theorem row_outer {n : Nat} {H L : Wl} (hn : n ≤ 12) {r : List Int} : ∀ (k : Nat) (s : List Int) (m : Nat) (lo : Int) (x5 x6 x7 : Option MV) (kvs : KV), s.length + k = n → Pref n s → keptF (ranksIn s) H L = true → KG n H L kvs → (dfs n H L k s)[m]? = some r → ∃ kvs' j f5 f6 f7, forM (.nm 5) B_row_at_2 ((rgN lo k).map D.int) (ER n H L m x5 x6 x7) (ST s kvs) = .ok (.nx (ER n H L j f5 f6 f7)) (ST r kvs')
  | 0, s, m, lo, x5, x6, x7, kvs, hl, P, hk, g, h => by
    rw [dfs] at h
    have : r = s := by
      have := List.mem_of_getElem? h
      simpa using this
    subst this
    exact ⟨kvs, _, _, _, _, rfl⟩
  | k + 1, s, m, lo, x5, x6, x7, kvs, hl, P, hk, g, h => by
    obtain ⟨t, j, hp, ht, hk2, h2⟩ := at_step hl P hk h
    obtain ⟨kvs1, f6, f7, g1, e⟩ := row_inner hn P (cand n s) m (some (.da (.int lo))) x6 x7 kvs (fun z hz => hz) g hp
    obtain ⟨kvs2, j2, f5, g6, g7, e2⟩ := row_outer hn (r := r) k (s ++ [t]) j (lo + 1) (some (.da (.int lo))) f6 f7 kvs1 (by simp; omega) (P.snoc ht) hk2 g1 h2
    refine ⟨kvs2, j2, f5, g6, g7, ?_⟩
    rw [rgN_succ, List.map_cons, forM_step (as := [(5, .int lo)]) (by simp) (ρ' := ER n H L j (some (.da (.int lo))) f6 f7) (μ' := ST (s ++ [t]) kvs1) ?_, e2]
    have cl := cand_le n s
    have fl : ((cand n s).map D.int).all flatD = true := flats_ints _
    simp only [List.map_cons, List.map_nil, setM_cons, setM_nil, List.set_cons_succ, List.set_cons_zero]
    unfold B_row_at_2
    simp only [ap_mForE, ap_xFN, snE_cons, Option.bind_some, snap_da, snap_ST, snap_ST1, snE_nil, ap_Lc, ap_CallN, ap_aCons, ap_aNil, var_0, R.bind_ok, rg_nat (show n ≤ 1000 by omega), List.length_map, rgN_len, if_pos (show n ≤ 100000 by omega), wipeD_cons, wipeD_nil, List.set_cons_succ, List.set_cons_zero]
    rw [lc_left n s _ 3 8 (by simp) (by simp) (by decide)]
    simp only [up_ok, fl, if_true, T.bind_ok, forE_lst, e]
theorem ev_row_at {n : Nat} {H L : Wl} (hn : n ≤ 12) {r : List Int} {m : Nat} (h : (keptRows n H L)[m]? = some r) : m_row_at [.int n, Wi H L, .int m] = .ok (r.map D.int) := by
  obtain ⟨kvs, j, f5, f6, f7, e⟩ := row_outer hn (r := r) n [] m 0 none none none [] (by simp) ⟨List.Pairwise.nil, fun y h => by cases h⟩ rfl ⟨List.Pairwise.nil, fun y h => by cases h⟩ h
  have q : q_row_at [.da (.int n), .da (Wi H L), .da (.int m)] [] = .ok (.hd 0) (ST r kvs) := by
    have s1 : q_row_at [.da (.int n), .da (Wi H L), .da (.int m)] [] = (T_row_at_2 (ER n H L m none none none) (ST [] [])).bind outM := by
      unfold q_row_at runM S_row_at
      simp [initM, List.replicate]
      rfl
    rw [s1]
    unfold T_row_at_2
    simp only [ap_mSeq, ap_mFor, hdM_cons, Option.bind_some, fz_da, fz_hd, hdM_nil, ap_CallN, ap_aCons, ap_aNil, var_0, R.bind_ok, rg_nat (show n ≤ 1000 by omega), up_ok, e, T.bind_ok, thenM_nx, ap_mRet, xV_0, xV_s, outM_rt]
  unfold m_row_at purN
  simp only [List.map_cons, List.map_nil, q]
  show (match dataOf ((r.map D.int).map MV.da) with | some es => R.ok es | none => R.bad) = _
  rw [dataOf_map]
/-! the number of a row -/
abbrev S1 (kvs : KV) : Sto := [.raw (.dT kvs)]
theorem behind_S1 {n : Nat} {H L : Wl} (hn : n ≤ 12) {s' : List Int} (hne : s' ≠ []) (P : Pref n s') {kvs : KV} (g : KG n H L kvs) : ∃ kvs', KG n H L kvs' ∧ m_ways_behind [.da (.int n), .da (Wi H L), .da (Li s'), .hd 0] (S1 kvs) = .ok (.da (.int (cntB n H L s' : Nat))) (S1 kvs') := by
  obtain ⟨μ', ⟨kvs', g', rfl⟩, e⟩ := ev_behind (μ0 := S1 kvs) (i := 0) hn (by simp) hne P (S1 kvs) ⟨kvs, g, rfl⟩
  exact ⟨kvs', g', e⟩
abbrev EN (r : List Int) (H L : Wl) (v : Int) (x4 x5 x6 : Option MV) : MEnv := [some (.da (Li r)), some (.da (Wi H L)), some (.da (.int v)), some (.hd 0), x4, x5, x6]
theorem num_step {n : Nat} {H L : Wl} (hn : n ≤ 12) (pre u : List Int) (hl : (pre ++ u).length = n) (P : Pref n pre) (x : Int) (hx : 0 ≤ x ∧ x < n) (v : Int) (x5 : Option MV) {kvs : KV} (g : KG n H L kvs) : ∃ kvs', KG n H L kvs' ∧ B_number_of_1 (EN (pre ++ u) H L v (some (.da (.int (pre.length : Nat)))) x5 (some (.da (.int x)))) (S1 kvs) = .ok (.nx (EN (pre ++ u) H L (v + (if x ∉ pre then cntB n H L (pre ++ [x]) else 0 : Nat)) (some (.da (.int (pre.length : Nat)))) x5 (some (.da (.int x))))) (S1 kvs') := by
  have pl : pre.length ≤ n := by rw [List.length_append] at hl; omega
  by_cases c : x ∈ pre
  · refine ⟨kvs, g, ?_⟩
    unfold B_number_of_1
    simp only [ap_mIf, ap_bF2, snE_cons, Option.bind_some, snap_da, ap_bE, ap_Op, ap_New, ap_Sl, ap_pNo, ap_pSome, var_s, var_0, R.bind_ok, ap_asI, sl_lst, cut_pre, R.map_ok, notInX_ints, decide_eq_true c, Bool.not_true, ap_asB, up_ok, T.bind_ok, if_neg Bool.false_ne_true, ap_mNext, if_neg (fun z : x ∉ pre => z c)]
    simp
  · obtain ⟨kvs', g', e⟩ := behind_S1 (H := H) (L := L) hn (s' := pre ++ [x]) (by simp) (P.snoc (cand_mem.mpr ⟨hx, c⟩)) g
    refine ⟨kvs', g', ?_⟩
    have ca := cat_ints pre [x] (by simp; omega)
    rw [List.map_singleton] at ca
    unfold B_number_of_1
    simp only [ap_mIf, ap_bF2, snE_cons, Option.bind_some, snap_da, ap_bE, ap_Op, ap_New, ap_Sl, ap_pNo, ap_pSome, var_s, var_0, R.bind_ok, ap_asI, sl_lst, cut_pre, R.map_ok, notInX_ints, decide_eq_false c, Bool.not_false, ap_asB, up_ok, T.bind_ok, if_true, if_pos c]
    simp only [ap_mAug, ap_xOp, xV_0, xV_s, ap_xCall, ap_yCons, ap_yNil, ap_xH, hdM_cons, Option.bind_some, fz_da, fz_hd, hdM_nil, ap_Call, ap_aCons, ap_aNil, ap_New, ap_OpN, ap_Sl, ap_Lst, ap_pNo, ap_pSome, var_s, var_0, R.bind_ok, ap_asI, len_lst, List.length_map, hl, sl_lst, cut_pre, R.map_ok, List.length_cons, List.length_nil, if_pos (show (0 + 1 : Nat) ≤ 100000 by decide), ca, up_ok, T.bind_ok, callM_4, e, opM_da, addI_int, List.set_cons_succ, List.set_cons_zero]
theorem num_inner {n : Nat} {H L : Wl} (hn : n ≤ 12) (pre u : List Int) (hl : (pre ++ u).length = n) (P : Pref n pre) (x5 : Option MV) : ∀ (xs : List Int) (v : Int) (x6 : Option MV) (kvs : KV), (∀ x ∈ xs, 0 ≤ x ∧ x < n) → KG n H L kvs → ∃ kvs' f6, KG n H L kvs' ∧ forM (.nm 6) B_number_of_1 (xs.map D.int) (EN (pre ++ u) H L v (some (.da (.int (pre.length : Nat)))) x5 x6) (S1 kvs) = .ok (.nx (EN (pre ++ u) H L (v + (((xs.filter fun x => decide (x ∉ pre)).map fun x => cntB n H L (pre ++ [x])).sum : Nat)) (some (.da (.int (pre.length : Nat)))) x5 f6)) (S1 kvs')
  | [], v, x6, kvs, _, g => ⟨kvs, x6, g, by simp [forM_nil]⟩
  | x :: xs, v, x6, kvs, hx, g => by
    obtain ⟨kvs1, g1, e1⟩ := num_step hn pre u hl P x (hx x List.mem_cons_self) v x5 g
    obtain ⟨kvs2, f6, g2, e2⟩ := num_inner hn pre u hl P x5 xs (v + (if x ∉ pre then cntB n H L (pre ++ [x]) else 0 : Nat)) (some (.da (.int x))) kvs1 (fun y hy => hx y (List.mem_cons_of_mem _ hy)) g1
    refine ⟨kvs2, f6, g2, ?_⟩
    have ev : v + ((if x ∉ pre then cntB n H L (pre ++ [x]) else 0 : Nat) : Int) + ((((xs.filter fun x => decide (x ∉ pre)).map fun x => cntB n H L (pre ++ [x])).sum : Nat) : Int) = v + (((((x :: xs).filter fun x => decide (x ∉ pre)).map fun x => cntB n H L (pre ++ [x])).sum : Nat) : Int) := by
      rw [List.filter_cons]
      by_cases c : x ∈ pre
      · simp [c]
      · simp [c, Int.add_assoc]
    rw [List.map_cons, forM_step (as := [(6, .int x)]) (by simp) e1, e2, ev]
theorem rg_cand {n : Nat} {s : List Int} {t : Int} (h0 : 0 ≤ t) (h : t < n) : (rgN 0 t.toNat).filter (fun x => decide (x ∉ s)) = (cand n s).filter fun x => decide (x < t) := by
  unfold cand
  rw [List.filter_filter]
  have : n = t.toNat + (n - t.toNat) := by omega
  rw [this, rgN_split, List.filter_append]
  have e1 : (rgN (0 + ((t.toNat : Nat) : Int)) (n - t.toNat)).filter (fun a => decide (a < t) && decide (a ∉ s)) = [] := List.filter_eq_nil_iff.mpr fun a ha => by
    have := mem_rgN.mp ha
    simp
    omega
  rw [e1, List.append_nil]
  refine List.filter_congr fun x hx => ?_
  have := mem_rgN.mp hx
  rw [decide_eq_true (show x < t by omega), Bool.true_and]
theorem num_outer {n : Nat} {H L : Wl} (hn : n ≤ 12) : ∀ (u pre : List Int) (v : Int) (x4 x5 x6 : Option MV) (kvs : KV), Pref n (pre ++ u) → (pre ++ u).length = n → KG n H L kvs → ∃ kvs' f4 f5 f6, forM (.tp (.cons (.nm 4) (.cons (.nm 5) .nil))) B_number_of_2 ((u.zipIdx pre.length).map fun p => D.tup [.int (p.2 : Nat), .int p.1]) (EN (pre ++ u) H L v x4 x5 x6) (S1 kvs) = .ok (.nx (EN (pre ++ u) H L (v + (numK n H L pre u : Nat)) f4 f5 f6)) (S1 kvs')
  | [], pre, v, x4, x5, x6, kvs, _, _, g => ⟨kvs, x4, x5, x6, by simp [forM_nil, numK]⟩
  | t :: u, pre, v, x4, x5, x6, kvs, P, hl, g => by
    have e : pre ++ t :: u = (pre ++ [t]) ++ u := by simp
    have tr := P.rg t (by simp)
    have Pp : Pref n pre := ⟨(List.nodup_append.mp P.nd).1, fun y hy => P.rg y (by simp [hy])⟩
    obtain ⟨kvs1, f6, g1, e1⟩ := num_inner (H := H) (L := L) hn pre (t :: u) hl Pp (some (.da (.int t))) (rgN 0 t.toNat) v x6 kvs (fun x hx => by have := mem_rgN.mp hx; omega) g
    rw [rg_cand tr.1 tr.2] at e1
    obtain ⟨kvs2, f4, f5, f6', e2⟩ := num_outer hn u (pre ++ [t]) (v + (((cand n pre).filter fun x => decide (x < t)).map fun x => cntB n H L (pre ++ [x])).sum) (some (.da (.int (pre.length : Nat)))) (some (.da (.int t))) f6 kvs1 (by rw [← e]; exact P) (by rw [← e]; exact hl) g1
    rw [List.length_append, List.length_singleton, ← e] at e2
    refine ⟨kvs2, f4, f5, f6', ?_⟩
    rw [List.zipIdx_cons, List.map_cons, forM_step (as := [(4, .int (pre.length : Nat)), (5, .int t)]) (by simp) ?_, e2, numK, Int.natCast_add, ← Int.add_assoc]
    · simp only [List.map_cons, List.map_nil, setM_cons, setM_nil, List.set_cons_succ, List.set_cons_zero]
      unfold B_number_of_2
      simp only [ap_mFor, hdM_cons, Option.bind_some, fz_da, fz_hd, hdM_nil, ap_CallN, ap_aCons, ap_aNil, var_0, var_s, R.bind_ok, rg1_ok (show -1000000 ≤ t ∧ t ≤ 1000000 by omega), up_ok]
      exact e1
theorem ev_number_of {n : Nat} {H L : Wl} (h1 : 1 ≤ n) (hn : n ≤ 12) (hw : (okW n H && okW n L) = true) {r : List Int} (h : r ∈ keptRows n H L) : m_number_of [Li r, Wi H L] = .ok (.int (numK n H L [] r : Nat)) := by
  obtain ⟨P, hl, hk⟩ := root_mem.mp h
  obtain ⟨kvs, f4, f5, f6, e⟩ := num_outer (H := H) (L := L) hn r [] 0 none none none [] P hl ⟨List.Pairwise.nil, fun y h => by cases h⟩
  have hr : isRow r = true := isRow_mk (by omega) (by omega) (by rw [hl]; exact pref_perm P hl)
  obtain ⟨sH, sL⟩ := okW_shorts hw (by omega)
  have c1 := ev_check_row hr
  have c2 := ev_check_wish n H L sH sL
  rw [hw, if_pos rfl] at c2
  have c3 := ev_is_kept r H L (by omega)
  rw [hk] at c3
  have en : iEn (eVar 0) (hdM (EN r H L 0 none none none)) = .ok (r.zipIdx.map fun p => D.tup [.int (p.2 : Nat), .int p.1]) := by
    rw [← enum_zip]
    exact iEn_ints (by simp [hdM_cons, fz_da])
  have q : q_number_of [.da (Li r), .da (Wi H L)] [] = .ok (.da (.int (numK n H L [] r : Nat))) (S1 kvs) := by
    have s1 : q_number_of [.da (Li r), .da (Wi H L)] [] = (T_number_of_1 (EN r H L 0 none none none) (S1 [])).bind outM := by
      have gt : ¬ (12 : Int) < (n : Int) := by omega
      unfold q_number_of runM S_number_of T_number_of_5 T_number_of_4 T_number_of_3 T_number_of_2
      simp [initM, List.replicate, hdM_cons, fz_da, snE_cons, snap_da, c1, hl, c2, c3, gt]
    rw [s1]
    unfold T_number_of_1
    rw [ap_mSeq, ap_mFor, en, up_ok]
    have e : forM (.tp (.cons (.nm 4) (.cons (.nm 5) .nil))) B_number_of_2 (r.zipIdx.map fun p => D.tup [.int (p.2 : Nat), .int p.1]) (EN r H L 0 none none none) (S1 []) = _ := e
    rw [e, List.nil_append, Int.zero_add, T.bind_ok, thenM_nx, ap_mRet]
    rfl
  unfold m_number_of purX
  simp only [List.map_cons, List.map_nil, q, snap_da]
theorem ev_row_by {n : Nat} {H L : Wl} (h1 : 1 ≤ n) (hn : n ≤ 12) (hw : (okW n H && okW n L) = true) {r : List Int} {m : Nat} (h : (keptRows n H L)[m]? = some r) : m_row_by [.int n, Wi H L, .int m] = .ok (r.map D.int) := by
  have c := ev_how_many n H L h1 (by omega) hw
  have lt := (List.getElem?_eq_some_iff.mp h).1
  rw [← kept_total] at c
  have e := ev_row_at hn h
  have gt : ¬ (12 : Int) < (n : Int) := by omega
  have b := ev_between (m : Nat) 0 (((keptRows n H L).length : Int) - 1)
  rw [decide_eq_true (show (0 : Int) ≤ (m : Nat) by omega), decide_eq_true (show ((m : Nat) : Int) ≤ ((keptRows n H L).length : Int) - 1 by omega)] at b
  unfold m_row_by DL.runN S_row_by T_row_by_3 T_row_by_2 T_row_by_1
  simp [initS, List.replicate, frE_cons, hdE_cons, c, gt, b, e]
theorem ev_nextO {n : Nat} {H L : Wl} (h1 : 1 ≤ n) (hn : n ≤ 12) (hw : (okW n H && okW n L) = true) {r : List Int} {m : Nat} (h : (keptRows n H L)[m]? = some r) : mO_next_one [Li r, Wi H L] = .ok (((keptRows n H L)[m + 1]?).map fun q => q.map D.int) := by
  have c := ev_how_many n H L h1 (by omega) hw
  rw [← kept_total] at c
  have lt := (List.getElem?_eq_some_iff.mp h).1
  have hm := List.mem_of_getElem? h
  have nm := ev_number_of h1 hn hw hm
  rw [num_at h] at nm
  have hl := (root_mem.mp hm).2.1
  cases hq : (keptRows n H L)[m + 1]? with
  | none =>
    have ge := List.getElem?_eq_none_iff.mp hq
    have ng : ¬ ((m : Nat) : Int) + 1 < ((keptRows n H L).length : Int) := by omega
    unfold mO_next_one runO S_next_one T_next_one_1
    simp [initS, List.replicate, frE_cons, hdE_cons, nm, hl, c, ng, outO]
  | some q =>
    have lq := (List.getElem?_eq_some_iff.mp hq).1
    have ng : ((m : Nat) : Int) + 1 < ((keptRows n H L).length : Int) := by omega
    have e := ev_row_at hn hq
    have e : m_row_at [.int n, Wi H L, .int (((m : Nat) : Int) + 1)] = .ok (q.map D.int) := e
    unfold mO_next_one runO S_next_one T_next_one_1
    simp [initS, List.replicate, frE_cons, hdE_cons, nm, hl, c, ng, e, outO]
theorem ev_next {n : Nat} {H L : Wl} (h1 : 1 ≤ n) (hn : n ≤ 12) (hw : (okW n H && okW n L) = true) {r : List Int} {m : Nat} (h : (keptRows n H L)[m]? = some r) : m_next_one [Li r, Wi H L] = .ok (optL (((keptRows n H L)[m + 1]?).map fun q => q.map D.int)) := by
  unfold m_next_one optX
  rw [ev_nextO h1 hn hw h]
  rfl
end K05
namespace K05
open DL PySem L2 ML
theorem lkept_in {n : Nat} {H L : Wl} (hn : n ≤ 12) (hw : (okW n H && okW n L) = true) {r : List Int} (h : r ∈ keptRows n H L) : m__law_kept [Li r, Wi H L] = .ok (.bl true) := by
  obtain ⟨P, hl, hk⟩ := root_mem.mp h
  have := ev_lkept_row (ranks_valid r) (n := n) (H := H) (L := L) (by rw [ranksIn_len]; exact hl) hw (by omega)
  rw [rowBy_ranks n r P hl, hk] at this
  exact this
theorem sort_in {n : Nat} {H L : Wl} (h1 : 1 ≤ n) (hn : n ≤ 12) {r : List Int} (h : r ∈ keptRows n H L) : isort r = rgN 0 n := by
  obtain ⟨P, hl, hk⟩ := root_mem.mp h
  have hr : isRow r = true := isRow_mk (by omega) (by omega) (by rw [hl]; exact pref_perm P hl)
  unfold isRow at hr
  rw [Bool.and_eq_true] at hr
  rw [of_decide_eq_true hr.2, hl]
theorem ev_one_right {n : Nat} {H L : Wl} (h1 : 1 ≤ n) (hn : n ≤ 12) (hw : (okW n H && okW n L) = true) {r : List Int} {m : Nat} (h : (keptRows n H L)[m]? = some r) : m__law_one_right [.int n, Wi H L, .int m, .int ((keptRows n H L).length : Nat)] = .ok (.bl true) := by
  have hm := List.mem_of_getElem? h
  have lt := (List.getElem?_eq_some_iff.mp h).1
  have rb := ev_row_by h1 hn hw h
  have so := sort_in h1 hn hm
  have kp := lkept_in hn hw hm
  have nm := ev_number_of h1 hn hw hm
  rw [num_at h] at nm
  have nx := ev_nextO h1 hn hw h
  have nx2 := ev_next h1 hn hw h
  have rg := range_nat n (by omega)
  have s1 : m__law_one_right [.int n, Wi H L, .int m, .int ((keptRows n H L).length : Nat)] = (T__law_one_right_4 [.sh (.int n), .sh (Wi H L), .sh (.int m), .sh (.int ((keptRows n H L).length : Nat)), .ow (r.map D.int), .un, .un]).bind outX := by
    unfold m__law_one_right runX S__law_one_right T__law_one_right_5
    simp [initS, List.replicate, frE_cons, hdE_cons, rb, so, rg, kp, nm]
  rw [s1]
  unfold T__law_one_right_4 sAsgO eCallO
  simp only [ap_Seq, ap_aCons, ap_aNil, frE_cons, fr_sh, fr_ow, fr_un, frE_nil, var_s, var_0, R.bind_ok, callF_2, nx]
  cases hq : (keptRows n H L)[m + 1]? with
  | none =>
    have ge := List.getElem?_eq_none_iff.mp hq
    have eq : ((m : Nat) : Int) = ((keptRows n H L).length : Int) - 1 := by omega
    rw [Option.map_none]
    unfold asgO T__law_one_right_3
    simp [frE_cons, eq]
  | some q =>
    have lq := (List.getElem?_eq_some_iff.mp hq).1
    have ne : ¬ ((m : Nat) : Int) = ((keptRows n H L).length : Int) - 1 := by omega
    have rb2 := ev_row_by h1 hn hw hq
    have rb2 : m_row_by [.int n, Wi H L, .int (((m : Nat) : Int) + 1)] = .ok (q.map D.int) := rb2
    rw [hq] at nx2
    have nx2 : m_next_one [Li r, Wi H L] = .ok (Li q) := nx2
    have lx := kept_lt h hq
    have gx : oGtX (.lst (q.map D.int)) (.lst (r.map D.int)) = .ok (.bl true) := by
      unfold oGtX
      simp only [intsOf_map, lx]
    have fl : (q.map D.int).all flatD = true := flats_ints q
    have fr : (r.map D.int).all flatD = true := flats_ints r
    rw [Option.map_some]
    simp only [asgO, fl, if_true, R.bind_ok, ap_thenNx, List.set_cons_succ, List.set_cons_zero]
    have s2 : T__law_one_right_3 [.sh (.int n), .sh (Wi H L), .sh (.int m), .sh (.int ((keptRows n H L).length : Nat)), .ow (r.map D.int), .ow (q.map D.int), .un] = T__law_one_right_1 [.sh (.int n), .sh (Wi H L), .sh (.int m), .sh (.int ((keptRows n H L).length : Nat)), .ow (r.map D.int).reverse, .ow (q.map D.int), .ow (r.map D.int)] := by
      unfold T__law_one_right_3 T__law_one_right_2 sRev owAt
      simp only [ap_Seq, ap_sIf, ap_bE, ap_Op, ap_C, frE_cons, fr_sh, fr_ow, fr_un, frE_nil, var_s, var_0, R.bind_ok, sub_int, oEq_int, decide_eq_false ne, ap_asB, if_neg Bool.false_ne_true, ap_sNext, ap_thenNx, ap_sAsgN, ap_CallN, ap_aCons, ap_aNil, list_lst, fr, if_true, List.set_cons_succ, List.set_cons_zero, List.getElem?_cons_succ, List.getElem?_cons_zero]
    rw [s2]
    unfold T__law_one_right_1
    simp only [ap_sRet, ap_And, ap_Op, ap_New, ap_CallN, ap_Call, ap_aCons, ap_aNil, ap_C, frE_cons, fr_sh, fr_ow, frE_nil, var_s, var_0, R.bind_ok, add_int, callF_3, callF_2, rb2, R.map_ok, oEq_Li, decide_true, ap_asB, if_true, gx, nx2, ap_outRt]
/-! the last row of all -/
theorem rev_last : ∀ (n : Nat) (q : List Int), Pref n q → q.length = n → ¬ (rgN 0 n).reverse < q
  | 0, q, _, hl => by
    rw [List.length_eq_zero_iff.mp hl]
    exact List.lt_irrefl _
  | n + 1, [], _, hl => by simp at hl
  | n + 1, x :: q, P, hl => by
    have hx := P.rg x (by simp)
    have nd := List.nodup_cons.mp P.nd
    rw [show rgN 0 (n + 1) = rgN 0 n ++ [((n : Nat) : Int)] by rw [rgN_snoc]; simp, List.reverse_append]
    show ¬ ((n : Int) :: (rgN 0 n).reverse) < x :: q
    rw [List.cons_lt_cons_iff]
    rintro (h | ⟨h, h2⟩)
    · omega
    · have P2 : Pref n q := ⟨nd.2, fun y hy => by
        have h3 := P.rg y (by simp [hy])
        have h4 : y ≠ x := fun z => nd.1 (z ▸ hy)
        omega⟩
      exact rev_last n q P2 (by simpa using hl) h2
theorem rev_num (n : Nat) : numK n none none [] (rgN 0 n).reverse + 1 = (keptRows n none none).length := by
  have hp : ((rgN 0 n).reverse).Perm (rgN 0 n) := List.reverse_perm _
  have hm : (rgN 0 n).reverse ∈ keptRows n none none := root_mem.mpr ⟨⟨hp.nodup_iff.mpr (rgN_nodup 0 n), fun y hy => by have := mem_rgN.mp (hp.mem_iff.mp hy); omega⟩, by rw [List.length_reverse, rgN_len], kept_iff.mpr fun i x hx => by
    have v := ranks_valid _ i x hx
    exact ⟨v.1, v.2⟩⟩
  have h := num_kept hm
  have lt := (List.getElem?_eq_some_iff.mp h).1
  refine Classical.byContradiction fun z => ?_
  obtain ⟨q, hq⟩ : ∃ q, (keptRows n none none)[numK n none none [] (rgN 0 n).reverse + 1]? = some q := ⟨_, List.getElem?_eq_getElem (by omega)⟩
  have l := kept_lt h hq
  rw [lex_lt, decide_eq_true_eq] at l
  obtain ⟨P, hl, _⟩ := root_mem.mp (List.mem_of_getElem? hq)
  exact rev_last n q P hl l
end K05
namespace K05
open DL PySem L2 ML
theorem lkept_all {n : Nat} {H L : Wl} (hn : n ≤ 12) (hw : (okW n H && okW n L) = true) {r : List Int} (h : r ∈ sortRows (allR n)) : m__law_kept [Li r, Wi H L] = .ok (.bl (keptF (ranksIn r) H L)) := by
  obtain ⟨rs, v, l, rfl⟩ := allR_mem ((sortRows_perm (allR n)).mem_iff.mp h)
  rw [ranks_rowBy rs v]
  exact ev_lkept_row v l hw (by omega)
theorem kept_le {n : Nat} (h : n ≤ 5) (H L : Wl) : (keptRows n H L).length ≤ 120 := by
  rw [← kept_sorted]
  refine Nat.le_trans (List.length_filter_le _ _) ?_
  rw [(sortRows_perm (allR n)).length_eq, allR_len]
  exact (by decide : ∀ k, k < 6 → fac k ≤ 120) n (by omega)
theorem sev_le {m : Nat} (h : m ≤ 120) : ((rgN 0 m).filter fun x => decide (x % 7 = 0)).length ≤ 18 := (by decide +kernel : ∀ k, k < 121 → ((rgN 0 k).filter fun x => decide (x % 7 = 0)).length ≤ 18) m (by omega)
theorem ix_rows {rows : List (List Int)} {x : Nat} {r : List Int} (h : rows[x]? = some r) : oIx (.lst (rows.map Li)) (.int (x : Int)) = .ok (Li r) := by
  have e : atI (rows.map Li) (x : Int) = some (Li r) := by
    obtain ⟨hl, e⟩ := List.getElem?_eq_some_iff.mp h
    rw [atI_of (by rw [List.length_map]; exact hl), List.getElem_map, e]
  unfold oIx seqD
  simp only [e]
section
variable {n : Nat} {H L : Wl} (h1 : 1 ≤ n) (hn : n ≤ 5) (hw : (okW n H && okW n L) = true) (ns : List Int) (w b : Int) (d8 d9 d10 d11 : VE)
include h1 hn hw
theorem nums_step (x : Int) (hx : -1 ≤ x ∧ x < ((keptRows n H L).length : Int)) : B_law_1 [.sh (.scr ns), .sh (.int w), .sh (.int n), .sh (.lst ((sortRows (allR n)).map Li)), .sh (.int b), .sh (Wi H L), .sh (.lst ((keptRows n H L).map Li)), .sh (.int x), d8, d9, d10, d11, .un, .un] = .ok (.nx [.sh (.scr ns), .sh (.int w), .sh (.int n), .sh (.lst ((sortRows (allR n)).map Li)), .sh (.int b), .sh (Wi H L), .sh (.lst ((keptRows n H L).map Li)), .sh (.int x), d8, d9, d10, d11, .un, .un]) := by
  by_cases c : 0 ≤ x
  · obtain ⟨m, rfl⟩ : ∃ m : Nat, x = (m : Int) := ⟨x.toNat, by omega⟩
    obtain ⟨r, hr⟩ : ∃ r, (keptRows n H L)[m]? = some r := ⟨_, List.getElem?_eq_getElem (by omega)⟩
    have rb := ev_row_by h1 (by omega) hw hr
    have nm := ev_number_of h1 (by omega) hw (List.mem_of_getElem? hr)
    rw [num_at hr] at nm
    have ix := ix_rows hr
    have g0 : (0 : Int) ≤ (m : Int) := c
    have q := oNe_Li r r
    unfold B_law_1 T_law_1
    simp only [ap_Seq, ap_sIf, ap_bAnd, ap_bE, ap_Op, ap_C, ap_New, ap_CallN, ap_Call, ap_aCons, ap_aNil, frE_cons, fr_sh, var_s, var_0, R.bind_ok, cmp_int, decide_eq_true g0, ap_asB, if_true, callF_3, callF_2, rb, R.map_ok, ix, q, decide_true, Bool.not_true, if_neg Bool.false_ne_true, ap_sNext, ap_thenNx, nm, oNe_int]
  · unfold B_law_1 T_law_1
    simp only [ap_Seq, ap_sIf, ap_bAnd, ap_bE, ap_Op, ap_C, frE_cons, fr_sh, var_s, var_0, R.bind_ok, cmp_int, decide_eq_false c, ap_asB, if_neg Bool.false_ne_true, ap_sNext, ap_thenNx]
theorem nums_loop : ∀ (xs : List Int) (d7 : VE), (∀ x ∈ xs, -1 ≤ x ∧ x < ((keptRows n H L).length : Int)) → ∃ f7, forGo (.nm 7) B_law_1 (xs.map D.int) [.sh (.scr ns), .sh (.int w), .sh (.int n), .sh (.lst ((sortRows (allR n)).map Li)), .sh (.int b), .sh (Wi H L), .sh (.lst ((keptRows n H L).map Li)), d7, d8, d9, d10, d11, .un, .un] = .ok (.nx [.sh (.scr ns), .sh (.int w), .sh (.int n), .sh (.lst ((sortRows (allR n)).map Li)), .sh (.int b), .sh (Wi H L), .sh (.lst ((keptRows n H L).map Li)), f7, d8, d9, d10, d11, .un, .un])
  | [], d7, _ => ⟨d7, rfl⟩
  | x :: xs, d7, hx => by
    obtain ⟨f7, e⟩ := nums_loop xs (.sh (.int x)) fun y hy => hx y (List.mem_cons_of_mem _ hy)
    refine ⟨f7, ?_⟩
    rw [List.map_cons, for_step (ap_tgNm 7 _) (nums_step h1 hn hw ns w b d8 d9 d10 d11 x (hx x List.mem_cons_self)), e]
theorem p_some (d6 d7 : VE) : ∃ f7, T_law_8 [.sh (.scr ns), .sh (.int w), .sh (.int n), .sh (.lst ((sortRows (allR n)).map Li)), .sh (.int b), .sh (Wi H L), d6, d7, d8, d9, d10, d11, .un, .un] = T_law_6 [.sh (.scr ns), .sh (.int w), .sh (.int n), .sh (.lst ((sortRows (allR n)).map Li)), .sh (.int b), .sh (Wi H L), .sh (.lst ((keptRows n H L).map Li)), f7, d8, d9, d10, d11, .un, .un] := by
  have kl := kept_le hn H L
  have sl := sev_le kl
  have lc : ∀ o6 o7 o8 o9 o10 o11 o13 : Option D, lcGo (.nm 12) (bE (eCall (callF 2 m__law_kept) (aCons (eVar 12) (aCons (eVar 5) aNil)))) (eVar 12) [some (.scr ns), some (.int w), some (.int (n : Int)), some (.lst ((sortRows (allR n)).map Li)), some (.int b), some (Wi H L), o6, o7, o8, o9, o10, o11, none, o13] ((sortRows (allR n)).map Li) = .ok ((keptRows n H L).map Li) := by
    intro o6 o7 o8 o9 o10 o11 o13
    rw [← kept_sorted n H L]
    refine lc_nm Li _ Li (sortRows (allR n)) (fun r hr => ?_) (fun r _ _ => by simp)
    simp only [ap_bE, ap_Call, ap_aCons, ap_aNil, List.set_cons_succ, List.set_cons_zero, var_s, var_0, R.bind_ok, callF_2, lkept_all (show n ≤ 12 by omega) hw hr, ap_asB]
  have ll : ((sortRows (allR n)).map Li).length ≤ 100000 := by
    rw [List.length_map, (sortRows_perm (allR n)).length_eq, allR_len]
    exact (by decide : ∀ k, k < 6 → fac k ≤ 100000) n (by omega)
  have s1 : T_law_8 [.sh (.scr ns), .sh (.int w), .sh (.int n), .sh (.lst ((sortRows (allR n)).map Li)), .sh (.int b), .sh (Wi H L), d6, d7, d8, d9, d10, d11, .un, .un] = T_law_7 [.sh (.scr ns), .sh (.int w), .sh (.int n), .sh (.lst ((sortRows (allR n)).map Li)), .sh (.int b), .sh (Wi H L), .sh (.lst ((keptRows n H L).map Li)), d7, d8, d9, d10, d11, .un, .un] := by
    unfold T_law_8
    simp only [ap_Seq, ap_sAsgH, ap_New, ap_Lc, ap_iOf, hdE_cons, hd_sh, hd_un, hdE_nil, var_s, var_0, R.bind_ok, it_lst, if_pos ll, wipeD_cons, wipeD_nil, List.set_cons_succ, List.set_cons_zero, lc, R.map_ok, ap_thenNx]
  have lc2 : ∀ o7 o8 o9 o10 o11 o12 : Option D, lcGo (.nm 13) (bE (eOp oEq (eOp oMod (eVar 13) (eC (.int 7))) (eC (.int 0)))) (eVar 13) [some (.scr ns), some (.int w), some (.int (n : Int)), some (.lst ((sortRows (allR n)).map Li)), some (.int b), some (Wi H L), some (.lst ((keptRows n H L).map Li)), o7, o8, o9, o10, o11, o12, none] ((rgN 0 (keptRows n H L).length).map D.int) = .ok (((rgN 0 (keptRows n H L).length).filter fun x => decide (x % 7 = 0)).map D.int) := by
    intro o7 o8 o9 o10 o11 o12
    refine lc_nm D.int _ D.int _ (fun y hy => ?_) (fun y _ _ => by simp)
    simp only [ap_bE, ap_Op, ap_C, List.set_cons_succ, List.set_cons_zero, var_s, var_0, R.bind_ok, mod_int (show (0 : Int) < 7 by decide), oEq_int, ap_asB]
  have ca := cat_ints ((rgN 0 (keptRows n H L).length).filter fun x => decide (x % 7 = 0)) [((keptRows n H L).length : Int) - 1] (by simp; omega)
  rw [List.map_singleton] at ca
  have ss : oSSet (.lst ((((rgN 0 (keptRows n H L).length).filter fun x => decide (x % 7 = 0)) ++ [((keptRows n H L).length : Int) - 1]).map D.int)) = .ok ((sset (((rgN 0 (keptRows n H L).length).filter fun x => decide (x % 7 = 0)) ++ [((keptRows n H L).length : Int) - 1])).map D.int) := by
    unfold oSSet
    simp only [intsOf_map]
    rw [if_pos (by rw [List.length_append, List.length_singleton]; omega)]
  obtain ⟨f7, e⟩ := nums_loop h1 hn hw ns w b d8 d9 d10 d11 (sset (((rgN 0 (keptRows n H L).length).filter fun x => decide (x % 7 = 0)) ++ [((keptRows n H L).length : Int) - 1])) d7 (fun x hx => by
    rcases List.mem_append.mp ((sset_mem _ _).mp hx) with z | z
    · have := mem_rgN.mp (List.mem_filter.mp z).1
      omega
    · rw [List.mem_singleton] at z
      omega)
  refine ⟨f7, ?_⟩
  rw [s1]
  unfold T_law_7
  simp only [ap_Seq, ap_sFor, ap_iOf, ap_New, ap_UnN, ap_OpN, ap_Lc, ap_Lst, ap_CallN, ap_Call, ap_Op, ap_C, ap_aCons, ap_aNil, hdE_cons, hd_sh, hd_un, hdE_nil, var_s, var_0, R.bind_ok, len_lst, List.length_map, rg_nat (show (keptRows n H L).length ≤ 1000 by omega), rgN_len, if_pos (show (keptRows n H L).length ≤ 100000 by omega), wipeD_cons, wipeD_nil, List.set_cons_succ, List.set_cons_zero, lc2, R.map_ok, sub_int, List.length_cons, List.length_nil, if_pos (show (0 + 1 : Nat) ≤ 100000 by decide), ca, ss, it_lst, e, ap_thenNx]
end
theorem body_step (ns : List Int) (w b : Int) (hb : b = 0 ∨ b = 1) (hw0 : 0 ≤ w) (n : Nat) (h1 : 1 ≤ n) (h5 : n ≤ 5) (d5 d6 d7 d8 d9 d10 d11 : VE) : ∃ f5 f6 f7 f8 f9 f10 f11, B_law_2 [.sh (.scr ns), .sh (.int w), .sh (.int n), .sh (.lst ((sortRows (allR n)).map Li)), .sh (.int b), d5, d6, d7, d8, d9, d10, d11, .un, .un] = .ok (.nx [.sh (.scr ns), .sh (.int w), .sh (.int n), .sh (.lst ((sortRows (allR n)).map Li)), .sh (.int b), f5, f6, f7, f8, f9, f10, f11, .un, .un]) := by
  obtain ⟨H, L, ho, ew⟩ := ev_drawn_wish ns b n h1 (by omega)
  obtain ⟨m, m1, m2, hm⟩ : ∃ m : Nat, 1 ≤ m ∧ m ≤ 12 ∧ (m : Int) = 6 + w / (3 + b) % (if b = 0 then 7 else 3) := by
    rcases hb with rfl | rfl
    · exact ⟨(6 + w / (3 + 0) % 7).toNat, by omega, by omega, by rw [if_pos rfl]; omega⟩
    · exact ⟨(6 + w / (3 + 1) % 3).toNat, by omega, by omega, by rw [if_neg (by decide)]; omega⟩
  obtain ⟨H', L', ho', ew'⟩ := ev_drawn_wish ns (b + 2) m m1 (by omega)
  have hc := ev_how_many m H' L' m1 (by omega) ho'
  rw [← kept_total] at hc
  obtain ⟨f7, es⟩ := p_some h1 h5 ho ns w b d8 d9 d10 d11 d6 d7
  have s1 : B_law_2 [.sh (.scr ns), .sh (.int w), .sh (.int n), .sh (.lst ((sortRows (allR n)).map Li)), .sh (.int b), d5, d6, d7, d8, d9, d10, d11, .un, .un] = T_law_8 [.sh (.scr ns), .sh (.int w), .sh (.int n), .sh (.lst ((sortRows (allR n)).map Li)), .sh (.int b), .sh (Wi H L), d6, d7, d8, d9, d10, d11, .un, .un] := by
    unfold B_law_2
    simp only [ap_Seq, ap_sAsgH, ap_Call, ap_aCons, ap_aNil, hdE_cons, hd_sh, var_s, var_0, R.bind_ok, callF_3, ew, ap_thenNx, List.set_cons_succ, List.set_cons_zero]
  have fd : oFdiv (.int w) (.int (3 + b)) = .ok (.int (w / (3 + b))) := fdiv_int ⟨by omega, by omega⟩
  have md : oMod (.int (w / (3 + b))) (if decide (b = 0) = true then .int 7 else .int 3) = .ok (.int (w / (3 + b) % (if b = 0 then 7 else 3))) := by
    rcases hb with rfl | rfl
    · exact mod_int (by decide)
    · exact mod_int (by decide)
  have s2 : T_law_6 [.sh (.scr ns), .sh (.int w), .sh (.int n), .sh (.lst ((sortRows (allR n)).map Li)), .sh (.int b), .sh (Wi H L), .sh (.lst ((keptRows n H L).map Li)), f7, d8, d9, d10, d11, .un, .un] = T_law_3 [.sh (.scr ns), .sh (.int w), .sh (.int n), .sh (.lst ((sortRows (allR n)).map Li)), .sh (.int b), .sh (Wi H L), .sh (.lst ((keptRows n H L).map Li)), f7, .sh (.int m), .sh (Wi H' L'), .sh (.int ((keptRows m H' L').length : Int)), d11, .un, .un] := by
    have e7 : (if decide (b = 0) = true then R.ok (D.int 7) else R.ok (D.int 3)) = R.ok (if decide (b = 0) = true then D.int 7 else D.int 3) := by split <;> rfl
    unfold T_law_6
    simp only [ap_Seq, ap_sAsgH, ap_Op, ap_C, ap_If, ap_bE, hdE_cons, hd_sh, var_s, var_0, R.bind_ok, add_int, fd, oEq_int, ap_asB, e7, md, ap_thenNx, List.set_cons_succ, List.set_cons_zero, ← hm]
    unfold T_law_5 T_law_4
    simp only [ap_Seq, ap_sAsgH, ap_Call, ap_aCons, ap_aNil, ap_Op, ap_C, add_int, hdE_cons, hd_sh, var_s, var_0, R.bind_ok, callF_3, callF_2, ew', hc, ap_thenNx, List.set_cons_succ, List.set_cons_zero]
  rw [s1, es, s2]
  obtain ⟨qs, hqs, hql, eq⟩ : ∃ qs : List Int, (∀ q ∈ qs, 0 ≤ q ∧ q < ((keptRows m H' L').length : Int)) ∧ qs.length ≤ 2 ∧ T_law_3 [.sh (.scr ns), .sh (.int w), .sh (.int n), .sh (.lst ((sortRows (allR n)).map Li)), .sh (.int b), .sh (Wi H L), .sh (.lst ((keptRows n H L).map Li)), f7, .sh (.int m), .sh (Wi H' L'), .sh (.int ((keptRows m H' L').length : Int)), d11, .un, .un] = T_law_2 [.sh (.scr ns), .sh (.int w), .sh (.int n), .sh (.lst ((sortRows (allR n)).map Li)), .sh (.int b), .sh (Wi H L), .sh (.lst ((keptRows n H L).map Li)), f7, .sh (.int m), .sh (Wi H' L'), .sh (.int ((keptRows m H' L').length : Int)), .sh (Li qs), .un, .un] := by
    by_cases c : ((keptRows m H' L').length : Int) = 0
    · refine ⟨[], fun q hq => (by cases hq), by simp, ?_⟩
      unfold T_law_3
      simp only [ap_Seq, ap_sAsgH, ap_If, ap_bE, ap_Op, ap_C, ap_New, ap_Lst, ap_aNil, hdE_cons, hd_sh, var_s, var_0, R.bind_ok, oEq_int, decide_eq_true c, ap_asB, if_true, List.length_nil, if_pos (show (0 : Nat) ≤ 100000 by decide), R.map_ok, ap_thenNx, List.set_cons_succ, List.set_cons_zero]
      rfl
    · have cp : (0 : Int) < ((keptRows m H' L').length : Int) := by omega
      have m0 := Int.emod_nonneg w c
      have m3 := Int.emod_lt_of_pos w cp
      have ss : oSSet (.lst [.int (((keptRows m H' L').length : Int) - 1), .int (w % ((keptRows m H' L').length : Int))]) = .ok ((sset [((keptRows m H' L').length : Int) - 1, w % ((keptRows m H' L').length : Int)]).map D.int) := by
        show oSSet (.lst ([((keptRows m H' L').length : Int) - 1, w % ((keptRows m H' L').length : Int)].map D.int)) = _
        unfold oSSet
        simp only [intsOf_map]
        rw [if_pos (by simp)]
      refine ⟨sset [((keptRows m H' L').length : Int) - 1, w % ((keptRows m H' L').length : Int)], fun q hq => ?_, ?_, ?_⟩
      · have := (sset_mem _ _).mp hq
        simp only [List.mem_cons, List.not_mem_nil, or_false] at this
        omega
      · exact List.Nodup.length_le_of_subset (l₂ := [((keptRows m H' L').length : Int) - 1, w % ((keptRows m H' L').length : Int)]) ((sset_sorted _).imp fun {a b} h e => by omega) (fun z hz => (sset_mem _ _).mp hz)
      · unfold T_law_3
        simp only [ap_Seq, ap_sAsgH, ap_If, ap_bE, ap_Op, ap_C, ap_New, ap_UnN, ap_Lst, ap_aCons, ap_aNil, hdE_cons, hd_sh, var_s, var_0, R.bind_ok, oEq_int, decide_eq_false c, ap_asB, if_neg Bool.false_ne_true, sub_int, mod_int cp, List.length_cons, List.length_nil, if_pos (show (0 + 1 + 1 : Nat) ≤ 100000 by decide), R.map_ok, ss, ap_thenNx, List.set_cons_succ, List.set_cons_zero]
  rw [eq]
  have l1 : ∀ o6 o7 o11 : Option D, lcGo (.nm 7) bYes (eCall (callF 4 m__law_one_right) (aCons (eVar 8) (aCons (eVar 9) (aCons (eVar 7) (aCons (eVar 10) aNil))))) [some (.scr ns), some (.int w), some (.int (n : Int)), some (.lst ((sortRows (allR n)).map Li)), some (.int b), some (Wi H L), o6, none, some (.int (m : Int)), some (Wi H' L'), some (.int ((keptRows m H' L').length : Int)), o11, none, none] (qs.map D.int) = .ok (qs.map fun _ => .bl true) := by
    intro o6 o7 o11
    refine lc_all fun k hk => ?_
    have hk := hqs k hk
    obtain ⟨j, rfl⟩ : ∃ j : Nat, k = (j : Int) := ⟨k.toNat, by omega⟩
    have e := ev_one_right m1 m2 ho' (r := (keptRows m H' L')[j]'(by omega)) (m := j) (List.getElem?_eq_getElem (by omega))
    simp only [List.set_cons_succ, List.set_cons_zero, ap_Call, ap_aCons, ap_aNil, var_s, var_0, R.bind_ok, callF_4, e]
  have al := all_true qs fun _ => true
  have ql : (qs.map D.int).length ≤ 100000 := by rw [List.length_map]; omega
  refine ⟨.sh (Wi H L), .sh (.lst ((keptRows n H L).map Li)), f7, .sh (.int m), .sh (Wi H' L'), .sh (.int ((keptRows m H' L').length : Int)), .sh (Li qs), ?_⟩
  have l2 := l1 (some (.lst ((keptRows n H L).map Li))) none (some (Li qs))
  unfold T_law_2
  simp only [ap_sIf, ap_bNot, ap_bE, ap_Call, ap_aCons, ap_aNil, ap_New, ap_Lc, ap_iOf, frE_cons, fr_sh, fr_un, frE_nil, var_s, var_0, R.bind_ok, it_lst, if_pos ql, wipeD_cons, wipeD_nil, List.set_cons_succ, List.set_cons_zero, l2, R.map_ok, al]
  simp
/-! the ends -/
theorem kept3 : keptRows 3 (some [0, 2]) (some [0, 1]) = [[1, 0, 2]] := by decide +kernel
theorem num12 : numK 12 none none [] (rgN 0 12) = 0 := by decide +kernel
theorem len12 : (keptRows 12 none none).length = 479001600 := by
  have := kept_total 12 none none
  rw [show prodF (spansF 12 none none) = 479001600 by decide +kernel] at this
  omega
theorem row12 : (keptRows 12 none none)[0]? = some (rgN 0 12) := by
  have := num_kept (n := 12) (H := none) (L := none) (r := rgN 0 12) (root_mem.mpr ⟨⟨rgN_nodup 0 12, fun y hy => by have := mem_rgN.mp hy; omega⟩, by rw [rgN_len], by decide +kernel⟩)
  rw [num12] at this
  exact this
theorem rev12 : (rgN 0 12).reverse ∈ keptRows 12 none none := root_mem.mpr ⟨⟨by decide +kernel, by decide +kernel⟩, by decide +kernel, by decide +kernel⟩
theorem last_part (e0 e1 e2 e3 e4 e5 e6 e7 e8 e9 e10 e11 e12 e13 : VE) : T_law_11 [e0, e1, e2, e3, e4, e5, e6, e7, e8, e9, e10, e11, e12, e13] = .ok (.rt (.bl true)) := by
  have h3 : (keptRows 3 (some [0, 2]) (some [0, 1]))[0]? = some [1, 0, 2] := by rw [kept3]; rfl
  have o3 : (okW ((3 : Nat) : Int) (some [0, 2]) && okW ((3 : Nat) : Int) (some [0, 1])) = true := by decide +kernel
  have r3 := ev_row_by (n := 3) (by decide) (by decide) o3 h3
  have n3 := ev_next (n := 3) (by decide) (by decide) o3 h3
  rw [kept3] at n3
  have r3 : m_row_by [.int 3, .tup [.lst [.int 0, .int 2], .lst [.int 0, .int 1]], .int 0] = .ok [.int 1, .int 0, .int 2] := r3
  have n3 : m_next_one [.lst [.int 1, .int 0, .int 2], .tup [.lst [.int 0, .int 2], .lst [.int 0, .int 1]]] = .ok .non := n3
  have o12 : (okW ((12 : Nat) : Int) none && okW ((12 : Nat) : Int) none) = true := rfl
  have r12 := ev_row_by (n := 12) (by decide) (by decide) o12 row12
  have r12 : m_row_by [.int 12, .tup [.non, .non], .int 0] = .ok ((rgN 0 12).map D.int) := r12
  have nn := ev_number_of (n := 12) (by decide) (by decide) o12 rev12
  have v := rev_num 12
  rw [len12] at v
  rw [show numK 12 none none [] (rgN 0 12).reverse = 479001599 by omega] at nn
  have nn : m_number_of [.lst ((rgN 0 12).reverse.map D.int), .tup [.non, .non]] = .ok (.int 479001599) := nn
  have rv : oRev (.lst ((rgN 0 12).map D.int)) = .ok ((rgN 0 12).reverse.map D.int) := by rw [List.map_reverse]; rfl
  have ra : oRange (.int 0) (.int 12) = .ok ((rgN 0 12).map D.int) := range_nat 12 (by decide)
  have q3 : oNe (.lst [.int 1, .int 0, .int 2]) (.lst [.int 1, .int 0, .int 2]) = .ok (.bl false) := oNe_Li [1, 0, 2] [1, 0, 2]
  have q12 := oNe_Li (rgN 0 12) (rgN 0 12)
  have l2 : ((0 + 1 + 1 : Nat) ≤ 100000) := by decide
  have l3 : ((0 + 1 + 1 + 1 : Nat) ≤ 100000) := by decide
  unfold T_law_11
  simp only [ap_Seq, ap_sIf, ap_bOr, ap_bE, ap_Op, ap_C, ap_New, ap_CallN, ap_Call, ap_Tup, ap_Lst, ap_aCons, ap_aNil, R.bind_ok, R.map_ok, List.length_cons, List.length_nil, if_pos l2, if_pos l3, callF_3, callF_2, r3, n3, q3, ap_asB, isn_non, if_neg Bool.false_ne_true, ap_sNext, ap_thenNx]
  unfold T_law_10
  simp only [ap_Seq, ap_sIf, ap_bE, ap_Op, ap_C, ap_New, ap_CallN, ap_UnN, ap_Tup, ap_aCons, ap_aNil, R.bind_ok, R.map_ok, List.length_cons, List.length_nil, if_pos l2, callF_3, r12, ra, q12, decide_true, Bool.not_true, ap_asB, if_neg Bool.false_ne_true, ap_sNext, ap_thenNx]
  unfold T_law_9
  simp only [ap_sRet, ap_Op, ap_C, ap_New, ap_Call, ap_UnN, ap_Tup, ap_aCons, ap_aNil, R.bind_ok, R.map_ok, List.length_cons, List.length_nil, if_pos l2, callF_2, ra, rv, nn, oEq_int, decide_true]
theorem law_true (ns : List Int) (h : ns.length ≤ 63) : runX 14 S_law [.scr ns] = .ok (.bl true) := by
  obtain ⟨w, hw⟩ : ∃ w : Int, w = (if (ns.take 63).sum < 0 then -(ns.take 63).sum else (ns.take 63).sum) := ⟨_, rfl⟩
  have hw0 : 0 ≤ w := by rw [hw]; split <;> omega
  have cut : cutD ns none (some 63) = ns.take 63 := cut_63 ns
  obtain ⟨n, h1, h5, hn⟩ : ∃ n : Nat, 1 ≤ n ∧ n ≤ 5 ∧ (n : Int) = 1 + w % 5 := ⟨(1 + w % 5).toNat, by omega, by omega, by omega⟩
  have er := ev_all_rows n (by omega)
  obtain ⟨a5, a6, a7, a8, a9, a10, a11, ea⟩ := body_step ns w 0 (by omega) hw0 n h1 h5 .un .un .un .un .un .un .un
  obtain ⟨b5, b6, b7, b8, b9, b10, b11, eb⟩ := body_step ns w 1 (by omega) hw0 n h1 h5 a5 a6 a7 a8 a9 a10 a11
  have loop : forGo (.nm 4) B_law_2 [.int 0, .int 1] [.sh (.scr ns), .sh (.int w), .sh (.int n), .sh (.lst ((sortRows (allR n)).map Li)), .un, .un, .un, .un, .un, .un, .un, .un, .un, .un] = .ok (.nx [.sh (.scr ns), .sh (.int w), .sh (.int n), .sh (.lst ((sortRows (allR n)).map Li)), .sh (.int 1), b5, b6, b7, b8, b9, b10, b11, .un, .un]) := by
    rw [for_step (ap_tgNm 4 _) ea, for_step (ap_tgNm 4 _) eb]
    rfl
  have r2 : rg1 [.int 2] = .ok [.int 0, .int 1] := rfl
  have s1 : runX 14 S_law [.scr ns] = (T_law_13 [.sh (.scr ns), .sh (.int w), .sh (.int n), .un, .un, .un, .un, .un, .un, .un, .un, .un, .un, .un]).bind outX := by
    unfold runX S_law
    simp [initS, List.replicate, cut, ← List.map_take, ← hw, T_law_14, mod_int, ← hn]
  rw [s1]
  simp only [T_law_13]
  simp [-List.map_map, hdE_cons, er]
  simp only [T_law_12]
  simp [-List.map_map, hdE_cons, r2, loop, last_part]
end K05
namespace K05
open PySem L2 DL ML
def topS (i : Nat) : Stmt := PySem.Challenge.pw_newhighs_k05_whole_numbered.main.body.getD i (.Pass ⟨0, 0, 0, 0⟩)
abbrev bmV : List Value := [.type "ValueError", .type "Exception", .type "BaseException", .type "object"]
structure Lk (K : PySem.W.Frag) (mg : Str → Option Value) : Prop where
  b_enumerate : mg "enumerate" = none
  b_len : mg "len" = none
  b_range : mg "range" = none
  b_max : mg "max" = none
  b_min : mg "min" = none
  b_sorted : mg "sorted" = none
  b_isinstance : mg "isinstance" = none
  b_int : mg "int" = none
  b_bool : mg "bool" = none
  b_list : mg "list" = none
  b_all : mg "all" = none
  b_zip : mg "zip" = none
  b_tuple : mg "tuple" = none
  b_sum : mg "sum" = none
  b_set : mg "set" = none
  b_abs : mg "abs" = none
  g_GREATEST : ∃ t, mg "GREATEST" = some (.int 12 t)
  g_MOST : ∃ t, mg "MOST" = some (.int 60 t)
  x_BadThings : ExcAt K mg "BadThings" bmV
  x_BadRow : ExcAt K mg "BadRow" bmV
  x_BadWish : ExcAt K mg "BadWish" bmV
  x_TooMany : ExcAt K mg "TooMany" bmV
  x_BadNumber : ExcAt K mg "BadNumber" bmV
  x_NotKept : ExcAt K mg "NotKept" bmV
  d_is_whole : At K mg "is_whole" (topS 10)
  d_is_between : At K mg "is_between" (topS 11)
  d_check_things : At K mg "check_things" (topS 12)
  d_is_row : At K mg "is_row" (topS 13)
  d_check_row : At K mg "check_row" (topS 14)
  d_are_places : At K mg "are_places" (topS 15)
  d_check_wish : At K mg "check_wish" (topS 16)
  d_ranks_in : At K mg "ranks_in" (topS 18)
  d_span : At K mg "span" (topS 19)
  d_spans : At K mg "spans" (topS 20)
  d_is_kept : At K mg "is_kept" (topS 21)
  d_how_many : At K mg "how_many" (topS 23)
  d_told_at : At K mg "told_at" (topS 26)
  d_ways : At K mg "ways" (topS 27)
  d_ways_behind : At K mg "ways_behind" (topS 28)
  d_row_at : At K mg "row_at" (topS 29)
  d_row_by : At K mg "row_by" (topS 30)
  d_number_of : At K mg "number_of" (topS 31)
  d_next_one : At K mg "next_one" (topS 32)
  d__law_number : At K mg "_law_number" (topS 34)
  d__law_drawn_wish : At K mg "_law_drawn_wish" (topS 36)
  d__law_highs : At K mg "_law_highs" (topS 37)
  d__law_lows : At K mg "_law_lows" (topS 38)
  d__law_kept : At K mg "_law_kept" (topS 39)
  d__law_all_rows : At K mg "_law_all_rows" (topS 40)
  d__law_one_right : At K mg "_law_one_right" (topS 41)
  d_law : At K mg "law" (topS 42)
abbrev s_is_whole : Stmt := topS 10
abbrev N_is_whole : List Str := ["thing"]
theorem sc_is_whole : FnScope N_is_whole ["thing"] (defScope s_is_whole) := ⟨rfl, rfl, rfl, by decide +kernel, rfl, by decide +kernel, by decide +kernel⟩
theorem ok_is_whole {P : Program} {w : World} {K : PySem.W.Frag} {mg : Str → Option Value} {base : Heap} (L : Lk K mg) : HasDef P w K mg base "is_whole" ["thing"] 1 (spX K mg 1 m_is_whole) :=
  hd_x L.d_is_whole sc_is_whole (fun _ _ _ _ _ _ us hl => match us, hl with | [_], _ => rfl) fun f cdv A outer s H E hr =>
  (pxs_one (pxs_ret (px_and (px_isi rfl L.b_isinstance rfl L.b_int (by decide +kernel) (px_var 0)) (px_one (px_not (px_isi rfl L.b_isinstance rfl L.b_bool (by decide +kernel) (px_var 0)))))))
abbrev s_is_between : Stmt := topS 11
abbrev N_is_between : List Str := ["thing", "low", "high"]
theorem sc_is_between : FnScope N_is_between ["thing", "low", "high"] (defScope s_is_between) := ⟨rfl, rfl, rfl, by decide +kernel, rfl, by decide +kernel, by decide +kernel⟩
theorem ok_is_between {P : Program} {w : World} {K : PySem.W.Frag} {mg : Str → Option Value} {base : Heap} (L : Lk K mg) (h_is_whole : HasDef P w K mg base "is_whole" ["thing"] 1 (spX K mg 1 m_is_whole)) : HasDef P w K mg base "is_between" ["thing", "low", "high"] 2 (spX K mg 3 m_is_between) :=
  hd_x L.d_is_between sc_is_between (fun _ _ _ _ _ _ us hl => match us, hl with | [_, _, _], _ => rfl) fun f cdv A outer s H E hr =>
  (pxs_one (pxs_ret (px_and (px_def h_is_whole hr (by decide) rfl (passE (takes_of rfl rfl rfl rfl)) (pxa_cons (px_var 0) pxa_nil)) (px_one (px_chain op_le op_le od_cmp od_cmp (px_var 1) (px_var 0) (px_var 2))))))
abbrev s_check_things : Stmt := topS 12
abbrev N_check_things : List Str := ["things"]
theorem sc_check_things : FnScope N_check_things ["things"] (defScope s_check_things) := ⟨rfl, rfl, rfl, by decide +kernel, rfl, by decide +kernel, by decide +kernel⟩
theorem ok_check_things {P : Program} {w : World} {K : PySem.W.Frag} {mg : Str → Option Value} {base : Heap} (L : Lk K mg) (h_is_between : HasDef P w K mg base "is_between" ["thing", "low", "high"] 2 (spX K mg 3 m_is_between)) : HasDef P w K mg base "check_things" ["things"] 3 (spX K mg 1 m_check_things) :=
  hd_x L.d_check_things sc_check_things (fun _ _ _ _ _ _ us hl => match us, hl with | [_], _ => rfl) fun f cdv A outer s H E hr =>
  (pxs_one (pxs_if (pt_xnot (pt_x (px_def h_is_between hr (by decide) rfl (passE (takes_of rfl rfl rfl rfl)) (pxa_cons (px_var 0) (pxa_cons px_int (pxa_cons (px_globE rfl L.g_MOST) pxa_nil))))))
  (pxs_one (pxs_exc L.x_BadThings rfl (takes_of rfl rfl rfl rfl) PySem.F.excBase_ValueError rfl))
  pxs_nil))
abbrev s_is_row : Stmt := topS 13
abbrev N_is_row : List Str := ["thing", "one"]
theorem sc_is_row : FnScope N_is_row ["thing"] (defScope s_is_row) := ⟨rfl, rfl, rfl, by decide +kernel, rfl, by decide +kernel, by decide +kernel⟩
theorem ok_is_row {P : Program} {w : World} {K : PySem.W.Frag} {mg : Str → Option Value} {base : Heap} (L : Lk K mg) (h_is_whole : HasDef P w K mg base "is_whole" ["thing"] 1 (spX K mg 1 m_is_whole)) : HasDef P w K mg base "is_row" ["thing"] 2 (spX K mg 1 m_is_row) :=
  hd_x L.d_is_row sc_is_row (fun _ _ _ _ _ _ us hl => match us, hl with | [_], _ => rfl) fun f cdv A outer s H E hr =>
  (pxs_cons (pxs_if (PW.pt (pw_xor (pt_xnot (pt_x (px_isi rfl L.b_isinstance rfl L.b_list (by decide +kernel) (px_var 0)))) (pw_xor (pt_xnot (pt_xchain op_le op_le od_cmp od_cmp px_int (px_cb call_len_seq cd_len (by rfl) L.b_len PySem.boot_len (pxa_cons (px_var 0) pxa_nil)) (px_globE rfl L.g_MOST))) (pw_xor1 (pt_xnot (pt_x (px_cb (cr_all rfl) cd_all (by rfl) L.b_all (by decide +kernel) (pxa_cons (PN.toX (pn_lc (own := [("one", 1)]) rfl sc_is_row.nd (pxi_of (px_var 0)) (blkOk_by (by kernel_rfl)) (fun _ _ _ _ _ => (pxg_nm (i := 1) sc_is_row.nd rfl (by first | exact Or.inl rfl | exact Or.inr rfl))) (fun _ _ _ _ _ => pxts_nil) (fun _ _ _ _ _ => (px_def h_is_whole hr (by decide) rfl passL (pxa_cons (px_var 1) pxa_nil))))) pxa_nil))))))))
  (pxs_one (pxs_ret px_bl))
  pxs_nil)
  (pxs_one (pxs_ret (px_cmp (op_eqD hr.units) od_eq (PN.toX (pn_cb cr_sortedI cd_sorted (by rfl) L.b_sorted (by decide +kernel) (pxa_cons (px_var 0) pxa_nil))) (PN.toX (pn_listRg1 rfl rfl L.b_list rfl L.b_range (px_cb call_len_seq cd_len (by rfl) L.b_len PySem.boot_len (pxa_cons (px_var 0) pxa_nil)))) (nomark _)))))
abbrev s_check_row : Stmt := topS 14
abbrev N_check_row : List Str := ["row"]
theorem sc_check_row : FnScope N_check_row ["row"] (defScope s_check_row) := ⟨rfl, rfl, rfl, by decide +kernel, rfl, by decide +kernel, by decide +kernel⟩
theorem ok_check_row {P : Program} {w : World} {K : PySem.W.Frag} {mg : Str → Option Value} {base : Heap} (L : Lk K mg) (h_is_row : HasDef P w K mg base "is_row" ["thing"] 2 (spX K mg 1 m_is_row)) : HasDef P w K mg base "check_row" ["row"] 3 (spX K mg 1 m_check_row) :=
  hd_x L.d_check_row sc_check_row (fun _ _ _ _ _ _ us hl => match us, hl with | [_], _ => rfl) fun f cdv A outer s H E hr =>
  (pxs_one (pxs_if (pt_xnot (pt_x (px_def h_is_row hr (by decide) rfl (passE (takes_of rfl rfl rfl rfl)) (pxa_cons (px_var 0) pxa_nil))))
  (pxs_one (pxs_exc L.x_BadRow rfl (takes_of rfl rfl rfl rfl) PySem.F.excBase_ValueError rfl))
  pxs_nil))
abbrev s_are_places : Stmt := topS 15
abbrev N_are_places : List Str := ["thing", "things", "one", "other"]
theorem sc_are_places : FnScope N_are_places ["thing", "things"] (defScope s_are_places) := ⟨rfl, rfl, rfl, by decide +kernel, rfl, by decide +kernel, by decide +kernel⟩
theorem ok_are_places {P : Program} {w : World} {K : PySem.W.Frag} {mg : Str → Option Value} {base : Heap} (L : Lk K mg) (h_is_between : HasDef P w K mg base "is_between" ["thing", "low", "high"] 2 (spX K mg 3 m_is_between)) : HasDef P w K mg base "are_places" ["thing", "things"] 3 (spX K mg 2 m_are_places) :=
  hd_x L.d_are_places sc_are_places (fun _ _ _ _ _ _ us hl => match us, hl with | [_, _], _ => rfl) fun f cdv A outer s H E hr =>
  (pxs_cons (pxs_if (PW.pt (pw_xor (pt_xnot (pt_x (px_isi rfl L.b_isinstance rfl L.b_list (by decide +kernel) (px_var 0)))) (pw_xor1 (pt_xnot (pt_x (px_cb (cr_all rfl) cd_all (by rfl) L.b_all (by decide +kernel) (pxa_cons (PN.toX (pn_lc (own := [("one", 2)]) rfl sc_are_places.nd (pxi_of (px_var 0)) (blkOk_by (by kernel_rfl)) (fun _ _ _ _ _ => (pxg_nm (i := 2) sc_are_places.nd rfl (by first | exact Or.inl rfl | exact Or.inr rfl))) (fun _ _ _ _ _ => pxts_nil) (fun _ _ _ _ _ => (px_def h_is_between hr (by decide) rfl passL (pxa_cons (px_var 2) (pxa_cons px_int (pxa_cons (px_sub (px_var 1) px_int) pxa_nil))))))) pxa_nil)))))))
  (pxs_one (pxs_ret px_bl))
  pxs_nil)
  (pxs_one (pxs_ret (px_cb (cr_all rfl) cd_all (by rfl) L.b_all (by decide +kernel) (pxa_cons (PN.toX (pn_lc (own := [("one", 2), ("other", 3)]) rfl sc_are_places.nd (pxi_zi rfl L.b_zip (px_var 0) (PN.toX (pn_sl (px_var 0) (po_xsome px_int) po_xnone))) (blkOk_by (by kernel_rfl)) (fun _ _ _ _ _ => (pxg_tp rfl (pxgs_cons (pxg_nm (i := 2) sc_are_places.nd rfl (by first | exact Or.inl rfl | exact Or.inr rfl)) (pxgs_cons (pxg_nm (i := 3) sc_are_places.nd rfl (by first | exact Or.inl rfl | exact Or.inr rfl)) pxgs_nil)))) (fun _ _ _ _ _ => pxts_nil) (fun _ _ _ _ _ => (px_cmp op_lt od_cmp (px_var 2) (px_var 3) (nomark _))))) pxa_nil)))))
abbrev s_check_wish : Stmt := topS 16
abbrev N_check_wish : List Str := ["things", "wish", "some"]
theorem sc_check_wish : FnScope N_check_wish ["things", "wish"] (defScope s_check_wish) := ⟨rfl, rfl, rfl, by decide +kernel, rfl, by decide +kernel, by decide +kernel⟩
theorem ok_check_wish {P : Program} {w : World} {K : PySem.W.Frag} {mg : Str → Option Value} {base : Heap} (L : Lk K mg) (h_are_places : HasDef P w K mg base "are_places" ["thing", "things"] 3 (spX K mg 2 m_are_places)) : HasDef P w K mg base "check_wish" ["things", "wish"] 4 (spX K mg 2 m_check_wish) :=
  hd_x L.d_check_wish sc_check_wish (fun _ _ _ _ _ _ us hl => match us, hl with | [_, _], _ => rfl) fun f cdv A outer s H E hr =>
  (pxs_cons (pxs_if (PW.pt (pw_xor (pt_xnot (pt_x (px_isi rfl L.b_isinstance rfl L.b_tuple (by decide +kernel) (px_var 1)))) (pw_xor1 (pt_xc (op_neD hr.units) od_ne (px_cb call_len_seq cd_len (by rfl) L.b_len PySem.boot_len (pxa_cons (px_var 1) pxa_nil)) px_int (nomark _)))))
  (pxs_one (pxs_exc L.x_BadWish rfl (takes_of rfl rfl rfl rfl) PySem.F.excBase_ValueError rfl))
  pxs_nil)
  (pxs_one (pxs_if (pt_xnot (pt_x (px_cb (cr_all rfl) cd_all (by rfl) L.b_all (by decide +kernel) (pxa_cons (PN.toX (pn_lc (own := [("some", 2)]) rfl sc_check_wish.nd (pxi_of (px_var 1)) (blkOk_by (by kernel_rfl)) (fun _ _ _ _ _ => (pxg_nm (i := 2) sc_check_wish.nd rfl (by first | exact Or.inl rfl | exact Or.inr rfl))) (fun _ _ _ _ _ => pxts_nil) (fun _ _ _ _ _ => (px_or (px_cmp (op_isN.or op_isBl) od_is (px_var 2) px_non (nomark _)) (px_one (px_def h_are_places hr (by decide) rfl passL (pxa_cons (px_var 2) (pxa_cons (px_var 0) pxa_nil)))))))) pxa_nil))))
  (pxs_one (pxs_exc L.x_BadWish rfl (takes_of rfl rfl rfl rfl) PySem.F.excBase_ValueError rfl))
  pxs_nil)))
abbrev s_ranks_in : Stmt := topS 18
abbrev N_ranks_in : List Str := ["row", "place", "thing", "one"]
theorem sc_ranks_in : FnScope N_ranks_in ["row"] (defScope s_ranks_in) := ⟨rfl, rfl, rfl, by decide +kernel, rfl, by decide +kernel, by decide +kernel⟩
theorem ok_ranks_in {P : Program} {w : World} {K : PySem.W.Frag} {mg : Str → Option Value} {base : Heap} (L : Lk K mg) : HasDef P w K mg base "ranks_in" ["row"] 1 (spN K mg 1 m_ranks_in) :=
  hd_n L.d_ranks_in sc_ranks_in (fun _ _ _ _ _ _ us hl => match us, hl with | [_], _ => rfl) fun f cdv A outer s H E hr =>
  (pxs_one (pxs_retN (pn_lc (own := [("place", 1), ("thing", 2)]) rfl sc_ranks_in.nd (pxi_en rfl L.b_enumerate (px_var 0)) (blkOk_by (by kernel_rfl)) (fun _ _ _ _ _ => (pxg_tp rfl (pxgs_cons (pxg_nm (i := 1) sc_ranks_in.nd rfl (by first | exact Or.inl rfl | exact Or.inr rfl)) (pxgs_cons (pxg_nm (i := 2) sc_ranks_in.nd rfl (by first | exact Or.inl rfl | exact Or.inr rfl)) pxgs_nil)))) (fun _ _ _ _ _ => pxts_nil) (fun _ _ _ _ _ => (px_cb call_len_seq cd_len (by rfl) L.b_len PySem.boot_len (pxa_cons (PN.toX (pn_lc (own := [("one", 3)]) rfl sc_ranks_in.nd (pxi_of (PN.toX (pn_sl (px_var 0) po_xnone (po_xsome (px_var 1))))) (blkOk_by (by kernel_rfl)) (fun _ _ _ _ _ => (pxg_nm (i := 3) sc_ranks_in.nd rfl (by first | exact Or.inl rfl | exact Or.inr rfl))) (fun _ _ _ _ _ => (pxts_one (pt_xc op_lt od_cmp (px_var 3) (px_var 2) (nomark _)))) (fun _ _ _ _ _ => (px_var 3)))) pxa_nil))))))
abbrev s_span : Stmt := topS 19
abbrev N_span : List Str := ["place", "wish", "highs", "lows", "least", "most"]
theorem sc_span : FnScope N_span ["place", "wish"] (defScope s_span) := ⟨rfl, rfl, rfl, by decide +kernel, rfl, by decide +kernel, by decide +kernel⟩
theorem ok_span {P : Program} {w : World} {K : PySem.W.Frag} {mg : Str → Option Value} {base : Heap} (L : Lk K mg) : HasDef P w K mg base "span" ["place", "wish"] 1 (spX K mg 2 m_span) :=
  hd_x L.d_span sc_span (fun _ _ _ _ _ _ us hl => match us, hl with | [_, _], _ => rfl) fun f cdv A outer s H E hr =>
  (pxs_cons (pxs_unp (px_var 1) (pxg_tp rfl (pxgs_cons (pxg_nm (i := 2) sc_span.nd rfl (by first | exact Or.inl rfl | exact Or.inr rfl)) (pxgs_cons (pxg_nm (i := 3) sc_span.nd rfl (by first | exact Or.inl rfl | exact Or.inr rfl)) pxgs_nil))))
  (pxs_cons (pxs_par rfl sc_span.nd rfl rfl (by decide) rfl rfl (pbs_cons (pb_h px_int) (pbs_cons (pb_h (px_var 0)) pbs_nil)) (by rfl))
  (pxs_cons (pxs_if (pt_xc (op_notN.or op_notBl) od_isnot (px_var 2) px_non (nomark _))
  (pxs_one (pxs_unp (px_if (pt_xc (op_in_seq.or (op_inD (u65 hr))) od_inX (px_var 0) (px_var 2) (by rfl)) (px_tup (pxa_cons (px_var 0) (pxa_cons (px_var 0) pxa_nil))) (px_tup (pxa_cons px_int (pxa_cons (px_sub (px_var 0) px_int) pxa_nil)))) (pxg_tp rfl (pxgs_cons (pxg_nm (i := 4) sc_span.nd rfl (by first | exact Or.inl rfl | exact Or.inr rfl)) (pxgs_cons (pxg_nm (i := 5) sc_span.nd rfl (by first | exact Or.inl rfl | exact Or.inr rfl)) pxgs_nil)))))
  pxs_nil)
  (pxs_cons (pxs_if (pt_xc (op_notN.or op_notBl) od_isnot (px_var 3) px_non (nomark _))
  (pxs_one (pxs_unp (px_if (pt_xc (op_in_seq.or (op_inD (u65 hr))) od_inX (px_var 0) (px_var 3) (by rfl)) (px_tup (pxa_cons (px_var 4) (pxa_cons (px_cb ((call_min2 rfl).or (cr_min rfl)) cd_min (by rfl) L.b_min (by decide +kernel) (pxa_cons (px_var 5) (pxa_cons px_int pxa_nil))) pxa_nil))) (px_tup (pxa_cons (px_cb ((call_max2 rfl).or (cr_max rfl)) cd_max (by rfl) L.b_max (by decide +kernel) (pxa_cons (px_var 4) (pxa_cons px_int pxa_nil))) (pxa_cons (px_var 5) pxa_nil)))) (pxg_tp rfl (pxgs_cons (pxg_nm (i := 4) sc_span.nd rfl (by first | exact Or.inl rfl | exact Or.inr rfl)) (pxgs_cons (pxg_nm (i := 5) sc_span.nd rfl (by first | exact Or.inl rfl | exact Or.inr rfl)) pxgs_nil)))))
  pxs_nil)
  (pxs_one (pxs_ret (px_tup (pxa_cons (px_var 4) (pxa_cons (px_var 5) pxa_nil)))))))))
abbrev s_spans : Stmt := topS 20
abbrev N_spans : List Str := ["things", "wish", "place"]
theorem sc_spans : FnScope N_spans ["things", "wish"] (defScope s_spans) := ⟨rfl, rfl, rfl, by decide +kernel, rfl, by decide +kernel, by decide +kernel⟩
theorem ok_spans {P : Program} {w : World} {K : PySem.W.Frag} {mg : Str → Option Value} {base : Heap} (L : Lk K mg) (h_span : HasDef P w K mg base "span" ["place", "wish"] 1 (spX K mg 2 m_span)) : HasDef P w K mg base "spans" ["things", "wish"] 2 (spN K mg 2 m_spans) :=
  hd_n L.d_spans sc_spans (fun _ _ _ _ _ _ us hl => match us, hl with | [_, _], _ => rfl) fun f cdv A outer s H E hr =>
  (pxs_one (pxs_retN (pn_lc (own := [("place", 2)]) rfl sc_spans.nd (pxi_rg1 rfl L.b_range (pxa_cons (px_var 0) pxa_nil)) (blkOk_by (by kernel_rfl)) (fun _ _ _ _ _ => (pxg_nm (i := 2) sc_spans.nd rfl (by first | exact Or.inl rfl | exact Or.inr rfl))) (fun _ _ _ _ _ => pxts_nil) (fun _ _ _ _ _ => (px_def h_span hr (by decide) rfl passL (pxa_cons (px_var 2) (pxa_cons (px_var 1) pxa_nil)))))))
abbrev s_is_kept : Stmt := topS 21
abbrev N_is_kept : List Str := ["row", "wish", "rank", "least", "most"]
theorem sc_is_kept : FnScope N_is_kept ["row", "wish"] (defScope s_is_kept) := ⟨rfl, rfl, rfl, by decide +kernel, rfl, by decide +kernel, by decide +kernel⟩
theorem ok_is_kept {P : Program} {w : World} {K : PySem.W.Frag} {mg : Str → Option Value} {base : Heap} (L : Lk K mg) (h_ranks_in : HasDef P w K mg base "ranks_in" ["row"] 1 (spN K mg 1 m_ranks_in)) (h_spans : HasDef P w K mg base "spans" ["things", "wish"] 2 (spN K mg 2 m_spans)) : HasDef P w K mg base "is_kept" ["row", "wish"] 3 (spX K mg 2 m_is_kept) :=
  hd_x L.d_is_kept sc_is_kept (fun _ _ _ _ _ _ us hl => match us, hl with | [_, _], _ => rfl) fun f cdv A outer s H E hr =>
  (pxs_one (pxs_ret (px_cb (cr_all rfl) cd_all (by rfl) L.b_all (by decide +kernel) (pxa_cons (PN.toX (pn_lc (own := [("rank", 2), ("least", 3), ("most", 4)]) rfl sc_is_kept.nd (pxi_zi rfl L.b_zip (PN.toX (pn_def h_ranks_in hr (by decide) rfl (passE (takes_of rfl rfl rfl rfl)) (pxa_cons (px_var 0) pxa_nil))) (PN.toX (pn_def h_spans hr (by decide) rfl (passE (takes_of rfl rfl rfl rfl)) (pxa_cons (px_cb call_len_seq cd_len (by rfl) L.b_len PySem.boot_len (pxa_cons (px_var 0) pxa_nil)) (pxa_cons (px_var 1) pxa_nil))))) (blkOk_by (by kernel_rfl)) (fun _ _ _ _ _ => (pxg_tp rfl (pxgs_cons (pxg_nm (i := 2) sc_is_kept.nd rfl (by first | exact Or.inl rfl | exact Or.inr rfl)) (pxgs_cons (pxg_tp rfl (pxgs_cons (pxg_nm (i := 3) sc_is_kept.nd rfl (by first | exact Or.inl rfl | exact Or.inr rfl)) (pxgs_cons (pxg_nm (i := 4) sc_is_kept.nd rfl (by first | exact Or.inl rfl | exact Or.inr rfl)) pxgs_nil))) pxgs_nil)))) (fun _ _ _ _ _ => pxts_nil) (fun _ _ _ _ _ => (px_chain op_le op_le od_cmp od_cmp (px_var 3) (px_var 2) (px_var 4))))) pxa_nil))))
abbrev s_how_many : Stmt := topS 23
abbrev N_how_many : List Str := ["things", "wish", "found", "least", "most"]
theorem sc_how_many : FnScope N_how_many ["things", "wish"] (defScope s_how_many) := ⟨rfl, rfl, rfl, by decide +kernel, rfl, by decide +kernel, by decide +kernel⟩
theorem ok_how_many {P : Program} {w : World} {K : PySem.W.Frag} {mg : Str → Option Value} {base : Heap} (L : Lk K mg) (h_check_things : HasDef P w K mg base "check_things" ["things"] 3 (spX K mg 1 m_check_things)) (h_check_wish : HasDef P w K mg base "check_wish" ["things", "wish"] 4 (spX K mg 2 m_check_wish)) (h_spans : HasDef P w K mg base "spans" ["things", "wish"] 2 (spN K mg 2 m_spans)) : HasDef P w K mg base "how_many" ["things", "wish"] 5 (spX K mg 2 m_how_many) :=
  hd_x L.d_how_many sc_how_many (fun _ _ _ _ _ _ us hl => match us, hl with | [_, _], _ => rfl) fun f cdv A outer s H E hr =>
  (pxs_cons (pxs_expr (px_def h_check_things hr (by decide) rfl (passE (takes_of rfl rfl rfl rfl)) (pxa_cons (px_var 0) pxa_nil)))
  (pxs_cons (pxs_expr (px_def h_check_wish hr (by decide) rfl (passE (takes_of rfl rfl rfl rfl)) (pxa_cons (px_var 0) (pxa_cons (px_var 1) pxa_nil))))
  (pxs_cons (pxs_setH (i := 2) sc_how_many.nd rfl (by first | exact Or.inl rfl | exact Or.inr rfl) px_int)
  (pxs_cons (pxs_for (passes_of rfl) rfl (pxi_of (PN.toX (pn_def h_spans hr (by decide) rfl (passE (takes_of rfl rfl rfl rfl)) (pxa_cons (px_var 0) (pxa_cons (px_var 1) pxa_nil))))) (pxg_tp rfl (pxgs_cons (pxg_nm (i := 3) sc_how_many.nd rfl (by first | exact Or.inl rfl | exact Or.inr rfl)) (pxgs_cons (pxg_nm (i := 4) sc_how_many.nd rfl (by first | exact Or.inl rfl | exact Or.inr rfl)) pxgs_nil)))
  (pxs_one (pxs_augX (i := 2) sc_how_many.nd rfl (by first | exact Or.inl rfl | exact Or.inr rfl) (px_cb ((call_max2 rfl).or (cr_max rfl)) cd_max (by rfl) L.b_max (by decide +kernel) (pxa_cons px_int (pxa_cons (px_add (px_sub (px_var 4) (px_var 3)) px_int) pxa_nil))) iop_mul od_mul)))
  (pxs_one (pxs_ret (px_var 2)))))))
abbrev s_told_at : Stmt := topS 26
abbrev N_told_at : List Str := ["places", "place"]
theorem sc_told_at : FnScope N_told_at ["places", "place"] (defScope s_told_at) := ⟨rfl, rfl, rfl, by decide +kernel, rfl, by decide +kernel, by decide +kernel⟩
theorem ok_told_at {P : Program} {w : World} {K : PySem.W.Frag} {mg : Str → Option Value} {base : Heap} (L : Lk K mg) : HasDef P w K mg base "told_at" ["places", "place"] 1 (spX K mg 2 m_told_at) :=
  hd_x L.d_told_at sc_told_at (fun _ _ _ _ _ _ us hl => match us, hl with | [_, _], _ => rfl) fun f cdv A outer s H E hr =>
  (pxs_one (pxs_ret (px_if (pt_xc (op_isN.or op_isBl) od_is (px_var 0) px_non (nomark _)) px_non (px_cmp (op_in_seq.or (op_inD (u65 hr))) od_inX (px_var 1) (px_var 0) (by rfl)))))
abbrev s_ways : Stmt := topS 27
abbrev N_ways : List Str := ["things", "wish", "place", "above", "below", "known", "spot", "high", "low", "between", "found", "more"]
theorem sc_ways : FnScope N_ways ["things", "wish", "place", "above", "below", "known"] (defScope s_ways) := ⟨rfl, rfl, rfl, by decide +kernel, rfl, by decide +kernel, by decide +kernel⟩
theorem st_ways {P : Program} {w : World} {K : PySem.W.Frag} {mg : Str → Option Value} {base : Heap} (L : Lk K mg) (h_told_at : HasDef P w K mg base "told_at" ["places", "place"] 1 (spX K mg 2 m_told_at)) (k : Nat) (hk : 2 ≤ k) (m_ways : List MV → Sto → T MV) (h_ways : HasDef P w K mg base "ways" ["things", "wish", "place", "above", "below", "known"] k (spM K mg 6 m_ways)) : HasDef P w K mg base "ways" ["things", "wish", "place", "above", "below", "known"] (k + 1) (spM K mg 6 (runM 12 (S_ways m_ways))) :=
  hd_m L.d_ways sc_ways (fun _ _ _ _ _ _ us hl => match us, hl with | [_, _, _, _, _, _], _ => rfl) fun f cdv A outer s H E hr =>
  (ms_cons (ms_if (pmt_F (pt_xc (op_eqD hr.units) od_eq (px_var 2) (px_var 0) (nomark _)))
  (ms_one (ms_ret (pm_H px_int)))
  ms_nil)
  (ms_cons (ms_set (i := 6) sc_ways.nd rfl (by first | exact Or.inl rfl | exact Or.inr rfl) (pm_H (px_tup (pxa_cons (px_var 2) (pxa_cons (px_var 3) (pxa_cons (px_var 4) pxa_nil))))))
  (ms_cons (ms_if (pmt_dnotin hr.units1 (pm_V 6) (pm_V 5))
  (ms_cons (ms_par rfl sc_ways.nd rfl rfl (by decide) rfl rfl (pms_cons (pm_H (px_def h_told_at hr (by omega) rfl (passE (takes_of rfl rfl rfl rfl)) (pxa_cons (px_ix (px_var 1) px_int (fun _ _ => rfl)) (pxa_cons (px_var 2) pxa_nil)))) (pms_cons (pm_H (px_def h_told_at hr (by omega) rfl (passE (takes_of rfl rfl rfl rfl)) (pxa_cons (px_ix (px_var 1) px_int (fun _ _ => rfl)) (pxa_cons (px_var 2) pxa_nil)))) pms_nil)) (by rfl))
  (ms_cons (ms_par rfl sc_ways.nd rfl rfl (by decide) rfl rfl (pms_cons (pm_H (px_sub (px_sub (px_sub (px_var 0) (px_var 2)) (px_var 3)) (px_var 4))) (pms_cons (pm_H px_int) pms_nil)) (by rfl))
  (ms_cons (ms_if (pmt_F (PW.pt (pw_xand (pt_xc ((op_notN.or op_notBl).or HX.op_notNB) (od_isnotX od_isnot) (px_var 7) px_bl (nomark _)) (pw_xand1 (pt_xc ((op_notN.or op_notBl).or HX.op_notNB) (od_isnotX od_isnot) (px_var 8) px_bl (nomark _))))))
  (ms_one (ms_aug (i := 10) sc_ways.nd rfl (by first | exact Or.inl rfl | exact Or.inr rfl) (pm_cbS (cr_sum rfl) cd_sum (by rfl) L.b_sum (by decide +kernel) (pms_cons (ML.pm_lc (own := [("more", 11)]) rfl sc_ways.nd (pxi_rg1 rfl L.b_range (pxa_cons (px_var 3) pxa_nil)) (blkOk_by (by kernel_rfl)) (fun _ _ _ _ _ => (pxg_nm (i := 11) sc_ways.nd rfl (by first | exact Or.inl rfl | exact Or.inr rfl))) (fun _ _ _ _ _ => (pm_def h_ways hr (by omega) rfl passL (pms_cons (pm_V 0) (pms_cons (pm_V 1) (pms_cons (pm_H (px_add (px_var 2) px_int)) (pms_cons (pm_V 11) (pms_cons (pm_V 4) (pms_cons (pm_V 5) pms_nil))))))))) pms_nil)) iop_add od_addI))
  ms_nil)
  (ms_cons (ms_if (pmt_F (PW.pt (pw_xand (pt_xc ((op_notN.or op_notBl).or HX.op_notNB) (od_isnotX od_isnot) (px_var 8) px_bl (nomark _)) (pw_xand1 (pt_xc ((op_notN.or op_notBl).or HX.op_notNB) (od_isnotX od_isnot) (px_var 7) px_bl (nomark _))))))
  (ms_one (ms_aug (i := 10) sc_ways.nd rfl (by first | exact Or.inl rfl | exact Or.inr rfl) (pm_cbS (cr_sum rfl) cd_sum (by rfl) L.b_sum (by decide +kernel) (pms_cons (ML.pm_lc (own := [("more", 11)]) rfl sc_ways.nd (pxi_rg1 rfl L.b_range (pxa_cons (px_var 4) pxa_nil)) (blkOk_by (by kernel_rfl)) (fun _ _ _ _ _ => (pxg_nm (i := 11) sc_ways.nd rfl (by first | exact Or.inl rfl | exact Or.inr rfl))) (fun _ _ _ _ _ => (pm_def h_ways hr (by omega) rfl passL (pms_cons (pm_V 0) (pms_cons (pm_V 1) (pms_cons (pm_H (px_add (px_var 2) px_int)) (pms_cons (pm_V 3) (pms_cons (pm_V 11) (pms_cons (pm_V 5) pms_nil))))))))) pms_nil)) iop_add od_addI))
  ms_nil)
  (ms_cons (ms_if (pmt_F (PW.pt (pw_xand (pt_xc ((op_notN.or op_notBl).or HX.op_notNB) (od_isnotX od_isnot) (px_var 7) px_bl (nomark _)) (pw_xand (pt_xc ((op_notN.or op_notBl).or HX.op_notNB) (od_isnotX od_isnot) (px_var 8) px_bl (nomark _)) (pw_xand1 (pt_xc op_gt od_cmp (px_var 9) px_int (nomark _)))))))
  (ms_one (ms_aug (i := 10) sc_ways.nd rfl (by first | exact Or.inl rfl | exact Or.inr rfl) (pm_binS op_mul od_mul (pm_V 9) (pm_def h_ways hr (by omega) rfl (passE (takes_of rfl rfl rfl rfl)) (pms_cons (pm_V 0) (pms_cons (pm_V 1) (pms_cons (pm_H (px_add (px_var 2) px_int)) (pms_cons (pm_V 3) (pms_cons (pm_V 4) (pms_cons (pm_V 5) pms_nil)))))))) iop_add od_addI))
  ms_nil)
  (ms_one (ms_dput hr.units1 (pm_V 5) (pm_V 6) (pm_V 10))))))))
  ms_nil)
  (ms_one (ms_ret (pm_dget hr.units1 (pm_V 5) (pm_V 6) (fun _ _ => rfl)))))))
theorem okN_ways {P : Program} {w : World} {K : PySem.W.Frag} {mg : Str → Option Value} {base : Heap} (L : Lk K mg) (h_told_at : HasDef P w K mg base "told_at" ["places", "place"] 1 (spX K mg 2 m_told_at)) : ∀ n : Nat, HasDef P w K mg base "ways" ["things", "wish", "place", "above", "below", "known"] (2 + n) (spM K mg 6 (m_waysF n))
  | 0 => (hd_bad L.d_ways sc_ways (fun _ _ _ _ _ _ us hl => match us, hl with | [_, _, _, _, _, _], _ => rfl) : HasDef P w K mg base "ways" ["things", "wish", "place", "above", "below", "known"] 2 (spM K mg 6 fun _ _ => .bad))
  | n + 1 => st_ways L h_told_at (2 + n) (by omega) (m_waysF n) (okN_ways L h_told_at n)
theorem ok_ways {P : Program} {w : World} {K : PySem.W.Frag} {mg : Str → Option Value} {base : Heap} (L : Lk K mg) (h_told_at : HasDef P w K mg base "told_at" ["places", "place"] 1 (spX K mg 2 m_told_at)) : HasDef P w K mg base "ways" ["things", "wish", "place", "above", "below", "known"] 15 (spM K mg 6 m_ways) := okN_ways L h_told_at 13
abbrev s_ways_behind : Stmt := topS 28
abbrev N_ways_behind : List Str := ["things", "wish", "begun", "known", "place", "thing", "high", "low", "left", "above", "below", "one"]
theorem sc_ways_behind : FnScope N_ways_behind ["things", "wish", "begun", "known"] (defScope s_ways_behind) := ⟨rfl, rfl, rfl, by decide +kernel, rfl, by decide +kernel, by decide +kernel⟩
theorem ok_ways_behind {P : Program} {w : World} {K : PySem.W.Frag} {mg : Str → Option Value} {base : Heap} (L : Lk K mg) (h_told_at : HasDef P w K mg base "told_at" ["places", "place"] 1 (spX K mg 2 m_told_at)) (h_ways : HasDef P w K mg base "ways" ["things", "wish", "place", "above", "below", "known"] 15 (spM K mg 6 m_ways)) : HasDef P w K mg base "ways_behind" ["things", "wish", "begun", "known"] 16 (spM K mg 4 m_ways_behind) :=
  hd_m L.d_ways_behind sc_ways_behind (fun _ _ _ _ _ _ us hl => match us, hl with | [_, _, _, _], _ => rfl) fun f cdv A outer s H E hr =>
  (ms_cons (ms_for (passes_of rfl) rfl (pxi_en rfl L.b_enumerate (px_var 2)) (pxg_tp rfl (pxgs_cons (pxg_nm (i := 4) sc_ways_behind.nd rfl (by first | exact Or.inl rfl | exact Or.inr rfl)) (pxgs_cons (pxg_nm (i := 5) sc_ways_behind.nd rfl (by first | exact Or.inl rfl | exact Or.inr rfl)) pxgs_nil)))
  (ms_cons (ms_set (i := 6) sc_ways_behind.nd rfl (by first | exact Or.inl rfl | exact Or.inr rfl) (pm_H (px_or (px_cmp (op_eqD hr.units) od_eq (px_var 4) px_int (nomark _)) (px_one (px_cmp op_gt od_cmp (px_var 5) (px_cb ((call_max2 rfl).or (cr_max rfl)) cd_max (by rfl) L.b_max (by decide +kernel) (pxa_cons (PN.toX (pn_sl (px_var 2) po_xnone (po_xsome (px_var 4)))) pxa_nil)) (nomark _))))))
  (ms_cons (ms_set (i := 7) sc_ways_behind.nd rfl (by first | exact Or.inl rfl | exact Or.inr rfl) (pm_H (px_or (px_cmp (op_eqD hr.units) od_eq (px_var 4) px_int (nomark _)) (px_one (px_cmp op_lt od_cmp (px_var 5) (px_cb ((call_min2 rfl).or (cr_min rfl)) cd_min (by rfl) L.b_min (by decide +kernel) (pxa_cons (PN.toX (pn_sl (px_var 2) po_xnone (po_xsome (px_var 4)))) pxa_nil)) (nomark _))))))
  (ms_one (ms_if (pmt_F (PW.pt (pw_xor (pt_xc (op_notIn_seq.or (op_notInD (u65 hr))) od_notInX (px_def h_told_at hr (by decide) rfl (passE (takes_of rfl rfl rfl rfl)) (pxa_cons (px_ix (px_var 1) px_int (fun _ _ => rfl)) (pxa_cons (px_var 4) pxa_nil))) (px_tup (pxa_cons px_non (pxa_cons (px_var 6) pxa_nil))) (by rfl)) (pw_xor1 (pt_xc (op_notIn_seq.or (op_notInD (u65 hr))) od_notInX (px_def h_told_at hr (by decide) rfl (passE (takes_of rfl rfl rfl rfl)) (pxa_cons (px_ix (px_var 1) px_int (fun _ _ => rfl)) (pxa_cons (px_var 4) pxa_nil))) (px_tup (pxa_cons px_non (pxa_cons (px_var 7) pxa_nil))) (by rfl))))))
  (ms_one (ms_ret (pm_H px_int)))
  ms_nil)))))
  (ms_cons (ms_lcH (pe_lcRaw (own := [("thing", 5)]) (i := 8) rfl sc_ways_behind.nd rfl rfl (sw_true rfl rfl rfl (by decide +kernel)) (pxi_rg1 rfl L.b_range (pxa_cons (px_var 0) pxa_nil)) (blkOk_by (by kernel_rfl)) (fun _ _ _ _ _ => (pxg_nm (i := 5) sc_ways_behind.nd rfl (by first | exact Or.inl rfl | exact Or.inr rfl))) (fun _ _ _ _ _ => (pxts_one (pt_xc (op_notIn_seq.or (op_notInD (u65 hr))) od_notInX (px_var 5) (px_var 2) (by rfl)))) (fun _ _ _ _ _ => (px_var 5))))
  (ms_cons (ms_par rfl sc_ways_behind.nd rfl rfl (by decide) rfl rfl (pms_cons (pm_H (px_cb call_len_seq cd_len (by rfl) L.b_len PySem.boot_len (pxa_cons (PN.toX (pn_lc (own := [("one", 11)]) rfl sc_ways_behind.nd (pxi_of (px_var 8)) (blkOk_by (by kernel_rfl)) (fun _ _ _ _ _ => (pxg_nm (i := 11) sc_ways_behind.nd rfl (by first | exact Or.inl rfl | exact Or.inr rfl))) (fun _ _ _ _ _ => (pxts_one (pt_xc op_gt od_cmp (px_var 11) (px_cb ((call_max2 rfl).or (cr_max rfl)) cd_max (by rfl) L.b_max (by decide +kernel) (pxa_cons (px_var 2) pxa_nil)) (nomark _)))) (fun _ _ _ _ _ => (px_var 11)))) pxa_nil))) (pms_cons (pm_H (px_cb call_len_seq cd_len (by rfl) L.b_len PySem.boot_len (pxa_cons (PN.toX (pn_lc (own := [("one", 11)]) rfl sc_ways_behind.nd (pxi_of (px_var 8)) (blkOk_by (by kernel_rfl)) (fun _ _ _ _ _ => (pxg_nm (i := 11) sc_ways_behind.nd rfl (by first | exact Or.inl rfl | exact Or.inr rfl))) (fun _ _ _ _ _ => (pxts_one (pt_xc op_lt od_cmp (px_var 11) (px_cb ((call_min2 rfl).or (cr_min rfl)) cd_min (by rfl) L.b_min (by decide +kernel) (pxa_cons (px_var 2) pxa_nil)) (nomark _)))) (fun _ _ _ _ _ => (px_var 11)))) pxa_nil))) pms_nil)) (by rfl))
  (ms_one (ms_ret (pm_def h_ways hr (by decide) rfl (passE (takes_of rfl rfl rfl rfl)) (pms_cons (pm_V 0) (pms_cons (pm_V 1) (pms_cons (pm_H (px_cb call_len_seq cd_len (by rfl) L.b_len PySem.boot_len (pxa_cons (px_var 2) pxa_nil))) (pms_cons (pm_V 9) (pms_cons (pm_V 10) (pms_cons (pm_V 3) pms_nil))))))))))))
abbrev s_row_at : Stmt := topS 29
abbrev N_row_at : List Str := ["things", "wish", "number", "found", "known", "place", "thing", "many", "one"]
theorem sc_row_at : FnScope N_row_at ["things", "wish", "number"] (defScope s_row_at) := ⟨rfl, rfl, rfl, by decide +kernel, rfl, by decide +kernel, by decide +kernel⟩
theorem ok_row_at {P : Program} {w : World} {K : PySem.W.Frag} {mg : Str → Option Value} {base : Heap} (L : Lk K mg) (h_ways_behind : HasDef P w K mg base "ways_behind" ["things", "wish", "begun", "known"] 16 (spM K mg 4 m_ways_behind)) : HasDef P w K mg base "row_at" ["things", "wish", "number"] 17 (spN K mg 3 m_row_at) :=
  HasDef.purN <| hd_m L.d_row_at sc_row_at (fun _ _ _ _ _ _ us hl => match us, hl with | [_, _, _], _ => rfl) fun f cdv A outer s H E hr =>
  (ms_cons (ms_parT (is := [3, 4]) rfl (pms_cons (pm_NH (pn_lst pxa_nil)) (pms_cons pm_dnewT pms_nil)) (pgs_cons (pg_name (i := 3) sc_row_at.nd rfl (by first | exact Or.inl rfl | exact Or.inr rfl)) (pgs_cons (pg_name (i := 4) sc_row_at.nd rfl (by first | exact Or.inl rfl | exact Or.inr rfl)) pgs_nil)))
  (ms_cons (ms_for (passes_of rfl) rfl (pxi_rg1 rfl L.b_range (pxa_cons (px_var 0) pxa_nil)) (pxg_nm (i := 5) sc_row_at.nd rfl (by first | exact Or.inl rfl | exact Or.inr rfl))
  (ms_one (ms_forE (passes_of rfl) rfl (pm_FN (pn_lc (own := [("one", 8)]) rfl sc_row_at.nd (pxi_rg1 rfl L.b_range (pxa_cons (px_var 0) pxa_nil)) (blkOk_by (by kernel_rfl)) (fun _ _ _ _ _ => (pxg_nm (i := 8) sc_row_at.nd rfl (by first | exact Or.inl rfl | exact Or.inr rfl))) (fun _ _ _ _ _ => (pxts_one (pt_xc (op_notIn_seq.or (op_notInD (u65 hr))) od_notInX (px_var 8) (px_var 3) (by rfl)))) (fun _ _ _ _ _ => (px_var 8)))) (pxg_nm (i := 6) sc_row_at.nd rfl (by first | exact Or.inl rfl | exact Or.inr rfl))
  (ms_cons (ms_set (i := 7) sc_row_at.nd rfl (by first | exact Or.inl rfl | exact Or.inr rfl) (pm_def h_ways_behind hr (by decide) rfl (passE (takes_of rfl rfl rfl rfl)) (pms_cons (pm_V 0) (pms_cons (pm_V 1) (pms_cons (pm_FN (pn_cat (px_var 3) (PN.toX (pn_lst (pxa_cons (px_var 6) pxa_nil))))) (pms_cons (pm_V 4) pms_nil))))))
  (ms_cons (ms_if (pmt_F (pt_xc op_lt od_cmp (px_var 2) (px_var 7) (nomark _)))
  (ms_cons (ms_expr (pm_app (pm_V 3) (pm_V 6)))
  (ms_one ms_break))
  ms_nil)
  (ms_one (ms_aug (i := 2) sc_row_at.nd rfl (by first | exact Or.inl rfl | exact Or.inr rfl) (pm_V 7) iop_sub od_sub)))))))
  (ms_one (ms_ret (pm_V 3)))))
abbrev s_row_by : Stmt := topS 30
abbrev N_row_by : List Str := ["things", "wish", "number", "many"]
theorem sc_row_by : FnScope N_row_by ["things", "wish", "number"] (defScope s_row_by) := ⟨rfl, rfl, rfl, by decide +kernel, rfl, by decide +kernel, by decide +kernel⟩
theorem ok_row_by {P : Program} {w : World} {K : PySem.W.Frag} {mg : Str → Option Value} {base : Heap} (L : Lk K mg) (h_is_between : HasDef P w K mg base "is_between" ["thing", "low", "high"] 2 (spX K mg 3 m_is_between)) (h_how_many : HasDef P w K mg base "how_many" ["things", "wish"] 5 (spX K mg 2 m_how_many)) (h_row_at : HasDef P w K mg base "row_at" ["things", "wish", "number"] 17 (spN K mg 3 m_row_at)) : HasDef P w K mg base "row_by" ["things", "wish", "number"] 18 (spN K mg 3 m_row_by) :=
  hd_n L.d_row_by sc_row_by (fun _ _ _ _ _ _ us hl => match us, hl with | [_, _, _], _ => rfl) fun f cdv A outer s H E hr =>
  (pxs_cons (pxs_setH (i := 3) sc_row_by.nd rfl (by first | exact Or.inl rfl | exact Or.inr rfl) (px_def h_how_many hr (by decide) rfl (passE (takes_of rfl rfl rfl rfl)) (pxa_cons (px_var 0) (pxa_cons (px_var 1) pxa_nil))))
  (pxs_cons (pxs_if (pt_xc op_gt od_cmp (px_var 0) (px_globE rfl L.g_GREATEST) (nomark _))
  (pxs_one (pxs_exc L.x_TooMany rfl (takes_of rfl rfl rfl rfl) PySem.F.excBase_ValueError rfl))
  pxs_nil)
  (pxs_cons (pxs_if (pt_xnot (pt_x (px_def h_is_between hr (by decide) rfl (passE (takes_of rfl rfl rfl rfl)) (pxa_cons (px_var 2) (pxa_cons px_int (pxa_cons (px_sub (px_var 3) px_int) pxa_nil))))))
  (pxs_one (pxs_exc L.x_BadNumber rfl (takes_of rfl rfl rfl rfl) PySem.F.excBase_ValueError rfl))
  pxs_nil)
  (pxs_one (pxs_retN (pn_def h_row_at hr (by decide) rfl (passE (takes_of rfl rfl rfl rfl)) (pxa_cons (px_var 0) (pxa_cons (px_var 1) (pxa_cons (px_var 2) pxa_nil)))))))))
abbrev s_number_of : Stmt := topS 31
abbrev N_number_of : List Str := ["row", "wish", "found", "known", "place", "thing", "one"]
theorem sc_number_of : FnScope N_number_of ["row", "wish"] (defScope s_number_of) := ⟨rfl, rfl, rfl, by decide +kernel, rfl, by decide +kernel, by decide +kernel⟩
theorem ok_number_of {P : Program} {w : World} {K : PySem.W.Frag} {mg : Str → Option Value} {base : Heap} (L : Lk K mg) (h_check_row : HasDef P w K mg base "check_row" ["row"] 3 (spX K mg 1 m_check_row)) (h_check_wish : HasDef P w K mg base "check_wish" ["things", "wish"] 4 (spX K mg 2 m_check_wish)) (h_is_kept : HasDef P w K mg base "is_kept" ["row", "wish"] 3 (spX K mg 2 m_is_kept)) (h_ways_behind : HasDef P w K mg base "ways_behind" ["things", "wish", "begun", "known"] 16 (spM K mg 4 m_ways_behind)) : HasDef P w K mg base "number_of" ["row", "wish"] 17 (spX K mg 2 m_number_of) :=
  HasDef.purX <| hd_m L.d_number_of sc_number_of (fun _ _ _ _ _ _ us hl => match us, hl with | [_, _], _ => rfl) fun f cdv A outer s H E hr =>
  (ms_cons (ms_expr (pm_H (px_def h_check_row hr (by decide) rfl (passE (takes_of rfl rfl rfl rfl)) (pxa_cons (px_var 0) pxa_nil))))
  (ms_cons (ms_expr (pm_H (px_def h_check_wish hr (by decide) rfl (passE (takes_of rfl rfl rfl rfl)) (pxa_cons (px_cb call_len_seq cd_len (by rfl) L.b_len PySem.boot_len (pxa_cons (px_var 0) pxa_nil)) (pxa_cons (px_var 1) pxa_nil)))))
  (ms_cons (ms_if (pmt_F (pt_xc op_gt od_cmp (px_cb call_len_seq cd_len (by rfl) L.b_len PySem.boot_len (pxa_cons (px_var 0) pxa_nil)) (px_globE rfl L.g_GREATEST) (nomark _)))
  (ms_one (ms_raise L.x_TooMany rfl (takes_of rfl rfl rfl rfl) PySem.F.excBase_ValueError rfl))
  ms_nil)
  (ms_cons (ms_if (pmt_F (pt_xnot (pt_x (px_def h_is_kept hr (by decide) rfl (passE (takes_of rfl rfl rfl rfl)) (pxa_cons (px_var 0) (pxa_cons (px_var 1) pxa_nil))))))
  (ms_one (ms_raise L.x_NotKept rfl (takes_of rfl rfl rfl rfl) PySem.F.excBase_ValueError rfl))
  ms_nil)
  (ms_cons (ms_par rfl sc_number_of.nd rfl rfl (by decide) rfl rfl (pms_cons (pm_H px_int) (pms_cons pm_dnewT pms_nil)) (by rfl))
  (ms_cons (ms_for (passes_of rfl) rfl (pxi_en rfl L.b_enumerate (px_var 0)) (pxg_tp rfl (pxgs_cons (pxg_nm (i := 4) sc_number_of.nd rfl (by first | exact Or.inl rfl | exact Or.inr rfl)) (pxgs_cons (pxg_nm (i := 5) sc_number_of.nd rfl (by first | exact Or.inl rfl | exact Or.inr rfl)) pxgs_nil)))
  (ms_one (ms_for (passes_of rfl) rfl (pxi_rg1 rfl L.b_range (pxa_cons (px_var 5) pxa_nil)) (pxg_nm (i := 6) sc_number_of.nd rfl (by first | exact Or.inl rfl | exact Or.inr rfl))
  (ms_one (ms_if (pmt_F (pt_xc (op_notIn_seq.or (op_notInD (u65 hr))) od_notInX (px_var 6) (PN.toX (pn_sl (px_var 0) po_xnone (po_xsome (px_var 4)))) (by rfl)))
  (ms_one (ms_aug (i := 2) sc_number_of.nd rfl (by first | exact Or.inl rfl | exact Or.inr rfl) (pm_def h_ways_behind hr (by decide) rfl (passE (takes_of rfl rfl rfl rfl)) (pms_cons (pm_H (px_cb call_len_seq cd_len (by rfl) L.b_len PySem.boot_len (pxa_cons (px_var 0) pxa_nil))) (pms_cons (pm_V 1) (pms_cons (pm_H (PN.toX (pn_cat (PN.toX (pn_sl (px_var 0) po_xnone (po_xsome (px_var 4)))) (PN.toX (pn_lst (pxa_cons (px_var 6) pxa_nil)))))) (pms_cons (pm_V 3) pms_nil))))) iop_add od_addI))
  ms_nil)))))
  (ms_one (ms_ret (pm_V 2)))))))))
abbrev s_next_one : Stmt := topS 32
abbrev N_next_one : List Str := ["row", "wish", "number"]
theorem sc_next_one : FnScope N_next_one ["row", "wish"] (defScope s_next_one) := ⟨rfl, rfl, rfl, by decide +kernel, rfl, by decide +kernel, by decide +kernel⟩
theorem ok_next_one {P : Program} {w : World} {K : PySem.W.Frag} {mg : Str → Option Value} {base : Heap} (L : Lk K mg) (h_how_many : HasDef P w K mg base "how_many" ["things", "wish"] 5 (spX K mg 2 m_how_many)) (h_row_at : HasDef P w K mg base "row_at" ["things", "wish", "number"] 17 (spN K mg 3 m_row_at)) (h_number_of : HasDef P w K mg base "number_of" ["row", "wish"] 17 (spX K mg 2 m_number_of)) : HasDef P w K mg base "next_one" ["row", "wish"] 18 (spO K mg 2 mO_next_one) :=
  hd_o L.d_next_one sc_next_one (fun _ _ _ _ _ _ us hl => match us, hl with | [_, _], _ => rfl) fun f cdv A outer s H E hr =>
  (pxs_cons (pxs_setH (i := 2) sc_next_one.nd rfl (by first | exact Or.inl rfl | exact Or.inr rfl) (px_add (px_def h_number_of hr (by decide) rfl (passE (takes_of rfl rfl rfl rfl)) (pxa_cons (px_var 0) (pxa_cons (px_var 1) pxa_nil))) px_int))
  (pxs_one (pxs_retIf (pt_xc op_lt od_cmp (px_var 2) (px_def h_how_many hr (by decide) rfl (passE (takes_of rfl rfl rfl rfl)) (pxa_cons (px_cb call_len_seq cd_len (by rfl) L.b_len PySem.boot_len (pxa_cons (px_var 0) pxa_nil)) (pxa_cons (px_var 1) pxa_nil))) (nomark _)) (pn_def h_row_at hr (by decide) rfl (passE (takes_of rfl rfl rfl rfl)) (pxa_cons (px_cb call_len_seq cd_len (by rfl) L.b_len PySem.boot_len (pxa_cons (px_var 0) pxa_nil)) (pxa_cons (px_var 1) (pxa_cons (px_var 2) pxa_nil)))) px_non)))
abbrev s__law_number : Stmt := topS 34
abbrev N__law_number : List Str := ["_law_cell", "_law_at", "_law_whole_here", "_law_low", "_law_high", "_law_mixed"]
theorem sc__law_number : FnScope N__law_number ["_law_cell", "_law_at", "_law_whole_here"] (defScope s__law_number) := ⟨rfl, rfl, rfl, by decide +kernel, rfl, by decide +kernel, by decide +kernel⟩
theorem ok__law_number {P : Program} {w : World} {K : PySem.W.Frag} {mg : Str → Option Value} {base : Heap} (L : Lk K mg) : HasDef P w K mg base "_law_number" ["_law_cell", "_law_at", "_law_whole_here"] 1 (spX K mg 3 m__law_number) :=
  hd_x L.d__law_number sc__law_number (fun _ _ _ _ _ _ us hl => match us, hl with | [_, _, _], _ => rfl) fun f cdv A outer s H E hr =>
  (pxs_cons (pxs_par rfl sc__law_number.nd rfl rfl (by decide) rfl rfl (pbs_cons (pb_h (px_mod (px_var 0) px_int)) (pbs_cons (pb_h (px_mod (px_fdiv (px_var 0) px_int) px_int)) pbs_nil)) (by rfl))
  (pxs_cons (pxs_setH (i := 5) sc__law_number.nd rfl (by first | exact Or.inl rfl | exact Or.inr rfl) (px_mod (px_add (px_add (px_mul (px_add (px_var 3) (px_mul px_int (px_var 1))) px_int) (px_mul px_int (px_var 4))) (px_mod (px_var 2) px_int)) px_int))
  (pxs_one (pxs_ret (px_add (px_mul (px_mod (px_mul (px_var 5) (px_add (px_add (px_var 5) (px_mul px_int (px_var 1))) px_int)) px_int) px_int) (px_var 4))))))
abbrev s__law_drawn_wish : Stmt := topS 36
abbrev N__law_drawn_wish : List Str := ["_law_script", "_law_by", "_law_many", "_law_cells", "_law_whole_here", "_law_highs_here", "_law_lows_here", "_law_spoil", "_law_kind", "_law_place", "_law_cell", "_law_turn", "_law_at"]
theorem sc__law_drawn_wish : FnScope N__law_drawn_wish ["_law_script", "_law_by", "_law_many"] (defScope s__law_drawn_wish) := ⟨rfl, rfl, rfl, by decide +kernel, rfl, by decide +kernel, by decide +kernel⟩
theorem ok__law_drawn_wish {P : Program} {w : World} {K : PySem.W.Frag} {mg : Str → Option Value} {base : Heap} (L : Lk K mg) (h__law_number : HasDef P w K mg base "_law_number" ["_law_cell", "_law_at", "_law_whole_here"] 1 (spX K mg 3 m__law_number)) : HasDef P w K mg base "_law_drawn_wish" ["_law_script", "_law_by", "_law_many"] 2 (spX K mg 3 m__law_drawn_wish) :=
  hd_x L.d__law_drawn_wish sc__law_drawn_wish (fun _ _ _ _ _ _ us hl => match us, hl with | [_, _, _], _ => rfl) fun f cdv A outer s H E hr =>
  (pxs_cons (pxs_setH (i := 3) sc__law_drawn_wish.nd rfl (by first | exact Or.inl rfl | exact Or.inr rfl) (px_if (pt_xc (op_neD hr.units) od_ne (px_var 0) (PN.toX (pn_lst pxa_nil)) (nomark _)) (PN.toX (pn_sl (px_var 0) po_xnone (po_xsome px_int))) (PN.toX (pn_lst (pxa_cons px_int pxa_nil)))))
  (pxs_cons (pxs_par3 rfl sc__law_drawn_wish.nd rfl rfl rfl (by decide) (by decide) (by decide) rfl rfl rfl (pbs_cons (pb_h (px_add (px_cb (cr_sum rfl) cd_sum (by rfl) L.b_sum (by decide +kernel) (pxa_cons (px_var 3) pxa_nil)) (px_var 1))) (pbs_cons (pb_h (PN.toX (pn_lst (pxa_cons px_int pxa_nil)))) (pbs_cons (pb_h (PN.toX (pn_lst (pxa_cons px_int pxa_nil)))) pbs_nil))) (by rfl))
  (pxs_cons (pxs_par rfl sc__law_drawn_wish.nd rfl rfl (by decide) rfl rfl (pbs_cons (pb_h (px_mod (px_fdiv (px_def h__law_number hr (by decide) rfl (passE (takes_of rfl rfl rfl rfl)) (pxa_cons (px_var 4) (pxa_cons (px_add (px_var 1) px_int) (pxa_cons px_int pxa_nil)))) px_int) px_int)) (pbs_cons (pb_h (px_mod (px_fdiv (px_def h__law_number hr (by decide) rfl (passE (takes_of rfl rfl rfl rfl)) (pxa_cons (px_var 4) (pxa_cons (px_add (px_var 1) px_int) (pxa_cons px_int pxa_nil)))) px_int) px_int)) pbs_nil)) (by rfl))
  (pxs_cons (pxs_for (passes_of rfl) rfl (pxi_rg2 rfl L.b_range (pxa_cons px_int (pxa_cons (px_var 2) pxa_nil))) (pxg_nm (i := 9) sc__law_drawn_wish.nd rfl (by first | exact Or.inl rfl | exact Or.inr rfl))
  (pxs_cons (pxs_setH (i := 10) sc__law_drawn_wish.nd rfl (by first | exact Or.inl rfl | exact Or.inr rfl) (px_add (px_ix (px_var 3) (px_mod (px_add (px_var 9) (px_mul px_int (px_var 1))) (px_cb call_len_seq cd_len (by rfl) L.b_len PySem.boot_len (pxa_cons (px_var 3) pxa_nil))) (fun _ _ => rfl)) (px_mul px_int (px_var 9))))
  (pxs_cons (pxs_setH (i := 11) sc__law_drawn_wish.nd rfl (by first | exact Or.inl rfl | exact Or.inr rfl) (px_mod (px_fdiv (px_def h__law_number hr (by decide) rfl (passE (takes_of rfl rfl rfl rfl)) (pxa_cons (px_var 10) (pxa_cons (px_add (px_var 9) (px_var 1)) (pxa_cons (px_var 4) pxa_nil)))) px_int) (px_if (pt_xc (op_eqD hr.units) od_eq (px_var 9) px_int (nomark _)) px_int px_int)))
  (pxs_cons (pxs_setH (i := 5) sc__law_drawn_wish.nd rfl (by first | exact Or.inl rfl | exact Or.inr rfl) (PN.toX (pn_cat (px_var 5) (PN.toX (pn_rep (PN.toX (pn_lst (pxa_cons (px_var 9) pxa_nil))) (px_ct call_int1 cd_int (by rfl) L.b_int (by decide +kernel) (pxa_cons (px_cmp (op_eqD hr.units) od_eq (px_var 11) px_int (nomark _)) pxa_nil)))))))
  (pxs_one (pxs_setH (i := 6) sc__law_drawn_wish.nd rfl (by first | exact Or.inl rfl | exact Or.inr rfl) (PN.toX (pn_cat (px_var 6) (PN.toX (pn_rep (PN.toX (pn_lst (pxa_cons (px_var 9) pxa_nil))) (px_ct call_int1 cd_int (by rfl) L.b_int (by decide +kernel) (pxa_cons (px_cmp (op_eqD hr.units) od_eq (px_var 11) px_int (nomark _)) pxa_nil))))))))))))
  (pxs_cons (pxs_setH (i := 12) sc__law_drawn_wish.nd rfl (by first | exact Or.inl rfl | exact Or.inr rfl) (px_mod (px_fdiv (px_var 4) px_int) (px_var 2)))
  (pxs_cons (pxs_if (pt_xc (op_eqD hr.units) od_eq (px_var 7) px_int (nomark _))
  (pxs_one (pxs_lcH (own := [("_law_place", 9)]) (pe_lcRaw (i := 5) rfl sc__law_drawn_wish.nd rfl rfl (sw_true rfl rfl rfl (by decide +kernel)) (pxi_of (px_var 5)) (blkOk_by (by kernel_rfl)) (fun _ _ _ _ _ => (pxg_nm (i := 9) sc__law_drawn_wish.nd rfl (by first | exact Or.inl rfl | exact Or.inr rfl))) (fun _ _ _ _ _ => (pxts_one (pt_xc (op_neD hr.units) od_ne (px_var 9) (px_var 12) (nomark _)))) (fun _ _ _ _ _ => (px_var 9)))))
  pxs_nil)
  (pxs_cons (pxs_if (pt_xc (op_eqD hr.units) od_eq (px_var 7) px_int (nomark _))
  (pxs_one (pxs_setH (i := 6) sc__law_drawn_wish.nd rfl (by first | exact Or.inl rfl | exact Or.inr rfl) (PN.toX (pn_sset rfl rfl L.b_sorted rfl L.b_set (PN.toX (pn_cat (px_var 6) (PN.toX (pn_lst (pxa_cons (px_var 12) pxa_nil)))))))))
  pxs_nil)
  (pxs_one (pxs_ret (px_ix (px_tup (pxa_cons (px_tup (pxa_cons (px_var 5) (pxa_cons (px_var 6) pxa_nil))) (pxa_cons (px_tup (pxa_cons (px_var 5) (pxa_cons (px_var 6) pxa_nil))) (pxa_cons (px_tup (pxa_cons (px_var 5) (pxa_cons (px_var 6) pxa_nil))) (pxa_cons (px_tup (pxa_cons (px_var 5) (pxa_cons px_non pxa_nil))) (pxa_cons (px_tup (pxa_cons px_non (pxa_cons (px_var 6) pxa_nil))) (pxa_cons (px_tup (pxa_cons px_non (pxa_cons px_non pxa_nil))) pxa_nil))))))) (px_var 8) (fun _ _ => rfl)))))))))))
abbrev s__law_highs : Stmt := topS 37
abbrev N__law_highs : List Str := ["_law_row", "_law_place", "_law_thing"]
theorem sc__law_highs : FnScope N__law_highs ["_law_row"] (defScope s__law_highs) := ⟨rfl, rfl, rfl, by decide +kernel, rfl, by decide +kernel, by decide +kernel⟩
theorem ok__law_highs {P : Program} {w : World} {K : PySem.W.Frag} {mg : Str → Option Value} {base : Heap} (L : Lk K mg) : HasDef P w K mg base "_law_highs" ["_law_row"] 1 (spN K mg 1 m__law_highs) :=
  hd_n L.d__law_highs sc__law_highs (fun _ _ _ _ _ _ us hl => match us, hl with | [_], _ => rfl) fun f cdv A outer s H E hr =>
  (pxs_one (pxs_retN (pn_lc (own := [("_law_place", 1), ("_law_thing", 2)]) rfl sc__law_highs.nd (pxi_en rfl L.b_enumerate (px_var 0)) (blkOk_by (by kernel_rfl)) (fun _ _ _ _ _ => (pxg_tp rfl (pxgs_cons (pxg_nm (i := 1) sc__law_highs.nd rfl (by first | exact Or.inl rfl | exact Or.inr rfl)) (pxgs_cons (pxg_nm (i := 2) sc__law_highs.nd rfl (by first | exact Or.inl rfl | exact Or.inr rfl)) pxgs_nil)))) (fun _ _ _ _ _ => (pxts_one (pt_xc (op_eqD hr.units) od_eq (px_var 2) (px_cb ((call_max2 rfl).or (cr_max rfl)) cd_max (by rfl) L.b_max (by decide +kernel) (pxa_cons (PN.toX (pn_sl (px_var 0) po_xnone (po_xsome (px_add (px_var 1) px_int)))) pxa_nil)) (nomark _)))) (fun _ _ _ _ _ => (px_var 1)))))
abbrev s__law_lows : Stmt := topS 38
abbrev N__law_lows : List Str := ["_law_row", "_law_place", "_law_thing"]
theorem sc__law_lows : FnScope N__law_lows ["_law_row"] (defScope s__law_lows) := ⟨rfl, rfl, rfl, by decide +kernel, rfl, by decide +kernel, by decide +kernel⟩
theorem ok__law_lows {P : Program} {w : World} {K : PySem.W.Frag} {mg : Str → Option Value} {base : Heap} (L : Lk K mg) : HasDef P w K mg base "_law_lows" ["_law_row"] 1 (spN K mg 1 m__law_lows) :=
  hd_n L.d__law_lows sc__law_lows (fun _ _ _ _ _ _ us hl => match us, hl with | [_], _ => rfl) fun f cdv A outer s H E hr =>
  (pxs_one (pxs_retN (pn_lc (own := [("_law_place", 1), ("_law_thing", 2)]) rfl sc__law_lows.nd (pxi_en rfl L.b_enumerate (px_var 0)) (blkOk_by (by kernel_rfl)) (fun _ _ _ _ _ => (pxg_tp rfl (pxgs_cons (pxg_nm (i := 1) sc__law_lows.nd rfl (by first | exact Or.inl rfl | exact Or.inr rfl)) (pxgs_cons (pxg_nm (i := 2) sc__law_lows.nd rfl (by first | exact Or.inl rfl | exact Or.inr rfl)) pxgs_nil)))) (fun _ _ _ _ _ => (pxts_one (pt_xc (op_eqD hr.units) od_eq (px_var 2) (px_cb ((call_min2 rfl).or (cr_min rfl)) cd_min (by rfl) L.b_min (by decide +kernel) (pxa_cons (PN.toX (pn_sl (px_var 0) po_xnone (po_xsome (px_add (px_var 1) px_int)))) pxa_nil)) (nomark _)))) (fun _ _ _ _ _ => (px_var 1)))))
abbrev s__law_kept : Stmt := topS 39
abbrev N__law_kept : List Str := ["_law_row", "_law_wish"]
theorem sc__law_kept : FnScope N__law_kept ["_law_row", "_law_wish"] (defScope s__law_kept) := ⟨rfl, rfl, rfl, by decide +kernel, rfl, by decide +kernel, by decide +kernel⟩
theorem ok__law_kept {P : Program} {w : World} {K : PySem.W.Frag} {mg : Str → Option Value} {base : Heap} (L : Lk K mg) (h__law_highs : HasDef P w K mg base "_law_highs" ["_law_row"] 1 (spN K mg 1 m__law_highs)) (h__law_lows : HasDef P w K mg base "_law_lows" ["_law_row"] 1 (spN K mg 1 m__law_lows)) : HasDef P w K mg base "_law_kept" ["_law_row", "_law_wish"] 2 (spX K mg 2 m__law_kept) :=
  hd_x L.d__law_kept sc__law_kept (fun _ _ _ _ _ _ us hl => match us, hl with | [_, _], _ => rfl) fun f cdv A outer s H E hr =>
  (pxs_cons (pxs_if (PW.pt (pw_xand (pt_xc (op_notN.or op_notBl) od_isnot (px_ix (px_var 1) px_int (fun _ _ => rfl)) px_non (nomark _)) (pw_xand1 (pt_xc (op_neD hr.units) od_ne (PN.toX (pn_def h__law_highs hr (by decide) rfl (passE (takes_of rfl rfl rfl rfl)) (pxa_cons (px_var 0) pxa_nil))) (px_ix (px_var 1) px_int (fun _ _ => rfl)) (nomark _)))))
  (pxs_one (pxs_ret px_bl))
  pxs_nil)
  (pxs_one (pxs_ret (px_or (px_cmp (op_isN.or op_isBl) od_is (px_ix (px_var 1) px_int (fun _ _ => rfl)) px_non (nomark _)) (px_one (px_cmp (op_eqD hr.units) od_eq (PN.toX (pn_def h__law_lows hr (by decide) rfl (passE (takes_of rfl rfl rfl rfl)) (pxa_cons (px_var 0) pxa_nil))) (px_ix (px_var 1) px_int (fun _ _ => rfl)) (nomark _)))))))
abbrev s__law_all_rows : Stmt := topS 40
abbrev N__law_all_rows : List Str := ["_law_many", "_law_found", "_law_size", "_law_longer", "_law_row", "_law_rank", "_law_one"]
theorem sc__law_all_rows : FnScope N__law_all_rows ["_law_many"] (defScope s__law_all_rows) := ⟨rfl, rfl, rfl, by decide +kernel, rfl, by decide +kernel, by decide +kernel⟩
theorem ok__law_all_rows {P : Program} {w : World} {K : PySem.W.Frag} {mg : Str → Option Value} {base : Heap} (L : Lk K mg) : HasDef P w K mg base "_law_all_rows" ["_law_many"] 1 (spN K mg 1 m__law_all_rows) :=
  hd_n L.d__law_all_rows sc__law_all_rows (fun _ _ _ _ _ _ us hl => match us, hl with | [_], _ => rfl) fun f cdv A outer s H E hr =>
  (pxs_cons (pxs_setH (i := 1) sc__law_all_rows.nd rfl (by first | exact Or.inl rfl | exact Or.inr rfl) (PN.toX (pn_lst (pxa_cons (PN.toX (pn_lst pxa_nil)) pxa_nil))))
  (pxs_cons (pxs_for (passes_of rfl) rfl (pxi_rg1 rfl L.b_range (pxa_cons (px_var 0) pxa_nil)) (pxg_nm (i := 2) sc__law_all_rows.nd rfl (by first | exact Or.inl rfl | exact Or.inr rfl))
  (pxs_cons (pxs_setNH (i := 3) sc__law_all_rows.nd rfl (by first | exact Or.inl rfl | exact Or.inr rfl) (pn_lst pxa_nil))
  (pxs_cons (pxs_for (passes_of rfl) rfl (pxi_of (px_var 1)) (pxg_nm (i := 4) sc__law_all_rows.nd rfl (by first | exact Or.inl rfl | exact Or.inr rfl))
  (pxs_one (pxs_for (passes_of rfl) rfl (pxi_rg1 rfl L.b_range (pxa_cons (px_add (px_var 2) px_int) pxa_nil)) (pxg_nm (i := 5) sc__law_all_rows.nd rfl (by first | exact Or.inl rfl | exact Or.inr rfl))
  (pxs_one (pxs_appH 3 (PN.toX (pn_cat (PN.toX (pn_lc (own := [("_law_one", 6)]) rfl sc__law_all_rows.nd (pxi_of (px_var 4)) (blkOk_by (by kernel_rfl)) (fun _ _ _ _ _ => (pxg_nm (i := 6) sc__law_all_rows.nd rfl (by first | exact Or.inl rfl | exact Or.inr rfl))) (fun _ _ _ _ _ => pxts_nil) (fun _ _ _ _ _ => (px_if (pt_xc op_ge od_cmp (px_var 6) (px_var 5) (nomark _)) (px_add (px_var 6) px_int) (px_var 6))))) (PN.toX (pn_lst (pxa_cons (px_var 5) pxa_nil))))))))))
  (pxs_frz 3 (pxs_one (pxs_setH (i := 1) sc__law_all_rows.nd rfl (by first | exact Or.inl rfl | exact Or.inr rfl) (px_var 3)))))))
  (pxs_one (pxs_retN (pn_cb (HX.cr_sortedL hr.units) cd_sortedL (by rfl) L.b_sorted (by decide +kernel) (pxa_cons (px_var 1) pxa_nil))))))
abbrev s__law_one_right : Stmt := topS 41
abbrev N__law_one_right : List Str := ["_law_many", "_law_wish", "_law_number_here", "_law_count", "_law_row", "_law_later", "_law_kept_here"]
theorem sc__law_one_right : FnScope N__law_one_right ["_law_many", "_law_wish", "_law_number_here", "_law_count"] (defScope s__law_one_right) := ⟨rfl, rfl, rfl, by decide +kernel, rfl, by decide +kernel, by decide +kernel⟩
theorem ok__law_one_right {P : Program} {w : World} {K : PySem.W.Frag} {mg : Str → Option Value} {base : Heap} (L : Lk K mg) (h_row_by : HasDef P w K mg base "row_by" ["things", "wish", "number"] 18 (spN K mg 3 m_row_by)) (h_number_of : HasDef P w K mg base "number_of" ["row", "wish"] 17 (spX K mg 2 m_number_of)) (h_next_one : HasDef P w K mg base "next_one" ["row", "wish"] 18 (spO K mg 2 mO_next_one)) (h__law_kept : HasDef P w K mg base "_law_kept" ["_law_row", "_law_wish"] 2 (spX K mg 2 m__law_kept)) : HasDef P w K mg base "_law_one_right" ["_law_many", "_law_wish", "_law_number_here", "_law_count"] 19 (spX K mg 4 m__law_one_right) :=
  hd_x L.d__law_one_right sc__law_one_right (fun _ _ _ _ _ _ us hl => match us, hl with | [_, _, _, _], _ => rfl) fun f cdv A outer s H E hr =>
  (pxs_cons (pxs_setNH (i := 4) sc__law_one_right.nd rfl (by first | exact Or.inl rfl | exact Or.inr rfl) (pn_def h_row_by hr (by decide) rfl (passE (takes_of rfl rfl rfl rfl)) (pxa_cons (px_var 0) (pxa_cons (px_var 1) (pxa_cons (px_var 2) pxa_nil)))))
  (pxs_cons (pxs_if (PW.pt (pw_xor (pt_xc (op_neD hr.units) od_ne (PN.toX (pn_cb cr_sortedI cd_sorted (by rfl) L.b_sorted (by decide +kernel) (pxa_cons (px_var 4) pxa_nil))) (PN.toX (pn_listRg1 rfl rfl L.b_list rfl L.b_range (px_var 0))) (nomark _)) (pw_xor (pt_xnot (pt_x (px_def h__law_kept hr (by decide) rfl (passE (takes_of rfl rfl rfl rfl)) (pxa_cons (px_var 4) (pxa_cons (px_var 1) pxa_nil))))) (pw_xor1 (pt_xc (op_neD hr.units) od_ne (px_def h_number_of hr (by decide) rfl (passE (takes_of rfl rfl rfl rfl)) (pxa_cons (px_var 4) (pxa_cons (px_var 1) pxa_nil))) (px_var 2) (nomark _))))))
  (pxs_one (pxs_ret px_bl))
  pxs_nil)
  (pxs_cons (pxs_setO (i := 5) sc__law_one_right.nd rfl (by first | exact Or.inl rfl | exact Or.inr rfl) (po_def h_next_one hr (by decide) rfl (passE (takes_of rfl rfl rfl rfl)) (pxa_cons (px_var 4) (pxa_cons (px_var 1) pxa_nil))))
  (pxs_cons (pxs_if (pt_xc (op_eqD hr.units) od_eq (px_var 2) (px_sub (px_var 3) px_int) (nomark _))
  (pxs_one (pxs_ret (px_cmp (op_isN.or op_isBl) od_is (px_var 5) px_non (nomark _))))
  pxs_nil)
  (pxs_cons (pxs_setN (i := 6) sc__law_one_right.nd rfl (by first | exact Or.inl rfl | exact Or.inr rfl) (pn_ct call_list_of cd_list (by rfl) L.b_list (by decide +kernel) (pxa_cons (px_var 4) pxa_nil)))
  (pxs_cons (pxs_rev 4)
  (pxs_one (pxs_ret (px_and (px_cmp (op_eqD hr.units) od_eq (px_var 5) (PN.toX (pn_def h_row_by hr (by decide) rfl (passE (takes_of rfl rfl rfl rfl)) (pxa_cons (px_var 0) (pxa_cons (px_var 1) (pxa_cons (px_add (px_var 2) px_int) pxa_nil))))) (nomark _)) (px_and (px_cmp (op_gt.or (HX.op_gtL hr.units)) (od_gtX od_cmp) (px_var 5) (px_var 6) (nomark _)) (px_one (px_cmp (op_eqD hr.units) od_eq (px_def h_next_one.toXO hr (by decide) rfl (passE (takes_of rfl rfl rfl rfl)) (pxa_cons (px_var 6) (pxa_cons (px_var 1) pxa_nil))) (px_var 5) (nomark _)))))))))))))
abbrev s_law : Stmt := topS 42
abbrev N_law : List Str := ["_law_script", "_law_whole_here", "_law_many", "_law_every", "_law_by", "_law_wish", "_law_some", "_law_number_here", "_law_far", "_law_great", "_law_count", "_law_numbers", "_law_row", "_law_at"]
theorem sc_law : FnScope N_law ["_law_script"] (defScope s_law) := ⟨rfl, rfl, rfl, by decide +kernel, rfl, by decide +kernel, by decide +kernel⟩
theorem bd_law {P : Program} {w : World} {K : PySem.W.Frag} {mg : Str → Option Value} {base : Heap} (L : Lk K mg) (h_how_many : HasDef P w K mg base "how_many" ["things", "wish"] 5 (spX K mg 2 m_how_many)) (h_row_by : HasDef P w K mg base "row_by" ["things", "wish", "number"] 18 (spN K mg 3 m_row_by)) (h_number_of : HasDef P w K mg base "number_of" ["row", "wish"] 17 (spX K mg 2 m_number_of)) (h_next_one : HasDef P w K mg base "next_one" ["row", "wish"] 18 (spO K mg 2 mO_next_one)) (h__law_drawn_wish : HasDef P w K mg base "_law_drawn_wish" ["_law_script", "_law_by", "_law_many"] 2 (spX K mg 3 m__law_drawn_wish)) (h__law_kept : HasDef P w K mg base "_law_kept" ["_law_row", "_law_wish"] 2 (spX K mg 2 m__law_kept)) (h__law_all_rows : HasDef P w K mg base "_law_all_rows" ["_law_many"] 1 (spN K mg 1 m__law_all_rows)) (h__law_one_right : HasDef P w K mg base "_law_one_right" ["_law_many", "_law_wish", "_law_number_here", "_law_count"] 19 (spX K mg 4 m__law_one_right)) (f : Addr) (cdv : Value) (A : Around) (outer : List PySem.Env) (s : Shared) (H : Hp) (E : XK) (hr : Room 19 (A.deeper (PyProof.Rows.envOfC "law" (defScope s_law) s.heap.objs.size f cdv))) : PXSs (cxOf (L2.CX P w) P w K mg base N_law "law" (defScope s_law) f cdv A outer s H E) E (defBody s_law) S_law :=
  (pxs_cons (pxs_setH (i := 1) sc_law.nd rfl (by first | exact Or.inl rfl | exact Or.inr rfl) (px_cb call_abs cd_abs (by rfl) L.b_abs (by decide +kernel) (pxa_cons (px_cb (cr_sum rfl) cd_sum (by rfl) L.b_sum (by decide +kernel) (pxa_cons (PN.toX (pn_sl (px_var 0) po_xnone (po_xsome px_int))) pxa_nil)) pxa_nil)))
  (pxs_cons (pxs_setH (i := 2) sc_law.nd rfl (by first | exact Or.inl rfl | exact Or.inr rfl) (px_add px_int (px_mod (px_var 1) px_int)))
  (pxs_cons (pxs_setH (i := 3) sc_law.nd rfl (by first | exact Or.inl rfl | exact Or.inr rfl) (PN.toX (pn_def h__law_all_rows hr (by decide) rfl (passE (takes_of rfl rfl rfl rfl)) (pxa_cons (px_var 2) pxa_nil))))
  (pxs_cons (pxs_for (passes_of rfl) rfl (pxi_rg1 rfl L.b_range (pxa_cons px_int pxa_nil)) (pxg_nm (i := 4) sc_law.nd rfl (by first | exact Or.inl rfl | exact Or.inr rfl))
  (pxs_cons (pxs_setH (i := 5) sc_law.nd rfl (by first | exact Or.inl rfl | exact Or.inr rfl) (px_def h__law_drawn_wish hr (by decide) rfl (passE (takes_of rfl rfl rfl rfl)) (pxa_cons (px_var 0) (pxa_cons (px_var 4) (pxa_cons (px_var 2) pxa_nil)))))
  (pxs_cons (pxs_lcH (own := [("_law_row", 12)]) (pe_lcRaw (i := 6) rfl sc_law.nd rfl rfl (sw_true rfl rfl rfl (by decide +kernel)) (pxi_of (px_var 3)) (blkOk_by (by kernel_rfl)) (fun _ _ _ _ _ => (pxg_nm (i := 12) sc_law.nd rfl (by first | exact Or.inl rfl | exact Or.inr rfl))) (fun _ _ _ _ _ => (pxts_one (pt_x (px_def h__law_kept hr (by decide) rfl passL (pxa_cons (px_var 12) (pxa_cons (px_var 5) pxa_nil)))))) (fun _ _ _ _ _ => (px_var 12))))
  (pxs_cons (pxs_for (passes_of rfl) rfl (pxi_of (PN.toX (pn_sset rfl rfl L.b_sorted rfl L.b_set (PN.toX (pn_cat (PN.toX (pn_lc (own := [("_law_at", 13)]) rfl sc_law.nd (pxi_rg1 rfl L.b_range (pxa_cons (px_cb call_len_seq cd_len (by rfl) L.b_len PySem.boot_len (pxa_cons (px_var 6) pxa_nil)) pxa_nil)) (blkOk_by (by kernel_rfl)) (fun _ _ _ _ _ => (pxg_nm (i := 13) sc_law.nd rfl (by first | exact Or.inl rfl | exact Or.inr rfl))) (fun _ _ _ _ _ => (pxts_one (pt_xc (op_eqD hr.units) od_eq (px_mod (px_var 13) px_int) px_int (nomark _)))) (fun _ _ _ _ _ => (px_var 13)))) (PN.toX (pn_lst (pxa_cons (px_sub (px_cb call_len_seq cd_len (by rfl) L.b_len PySem.boot_len (pxa_cons (px_var 6) pxa_nil)) px_int) pxa_nil)))))))) (pxg_nm (i := 7) sc_law.nd rfl (by first | exact Or.inl rfl | exact Or.inr rfl))
  (pxs_cons (pxs_if (PW.pt (pw_xand (pt_xc op_ge od_cmp (px_var 7) px_int (nomark _)) (pw_xand1 (pt_xc (op_neD hr.units) od_ne (PN.toX (pn_def h_row_by hr (by decide) rfl (passE (takes_of rfl rfl rfl rfl)) (pxa_cons (px_var 2) (pxa_cons (px_var 5) (pxa_cons (px_var 7) pxa_nil))))) (px_ix (px_var 6) (px_var 7) (fun _ _ => rfl)) (nomark _)))))
  (pxs_one (pxs_ret px_bl))
  pxs_nil)
  (pxs_one (pxs_if (PW.pt (pw_xand (pt_xc op_ge od_cmp (px_var 7) px_int (nomark _)) (pw_xand1 (pt_xc (op_neD hr.units) od_ne (px_def h_number_of hr (by decide) rfl (passE (takes_of rfl rfl rfl rfl)) (pxa_cons (px_ix (px_var 6) (px_var 7) (fun _ _ => rfl)) (pxa_cons (px_var 5) pxa_nil))) (px_var 7) (nomark _)))))
  (pxs_one (pxs_ret px_bl))
  pxs_nil))))
  (pxs_cons (pxs_setH (i := 8) sc_law.nd rfl (by first | exact Or.inl rfl | exact Or.inr rfl) (px_add px_int (px_mod (px_fdiv (px_var 1) (px_add px_int (px_var 4))) (px_if (pt_xc (op_eqD hr.units) od_eq (px_var 4) px_int (nomark _)) px_int px_int))))
  (pxs_cons (pxs_setH (i := 9) sc_law.nd rfl (by first | exact Or.inl rfl | exact Or.inr rfl) (px_def h__law_drawn_wish hr (by decide) rfl (passE (takes_of rfl rfl rfl rfl)) (pxa_cons (px_var 0) (pxa_cons (px_add (px_var 4) px_int) (pxa_cons (px_var 8) pxa_nil)))))
  (pxs_cons (pxs_setH (i := 10) sc_law.nd rfl (by first | exact Or.inl rfl | exact Or.inr rfl) (px_def h_how_many hr (by decide) rfl (passE (takes_of rfl rfl rfl rfl)) (pxa_cons (px_var 8) (pxa_cons (px_var 9) pxa_nil))))
  (pxs_cons (pxs_setH (i := 11) sc_law.nd rfl (by first | exact Or.inl rfl | exact Or.inr rfl) (px_if (pt_xc (op_eqD hr.units) od_eq (px_var 10) px_int (nomark _)) (PN.toX (pn_lst pxa_nil)) (PN.toX (pn_sset rfl rfl L.b_sorted rfl L.b_set (PN.toX (pn_lst (pxa_cons (px_sub (px_var 10) px_int) (pxa_cons (px_mod (px_var 1) (px_var 10)) pxa_nil))))))))
  (pxs_one (pxs_if (pt_xnot (pt_x (px_cb (cr_all rfl) cd_all (by rfl) L.b_all (by decide +kernel) (pxa_cons (PN.toX (pn_lc (own := [("_law_number_here", 7)]) rfl sc_law.nd (pxi_of (px_var 11)) (blkOk_by (by kernel_rfl)) (fun _ _ _ _ _ => (pxg_nm (i := 7) sc_law.nd rfl (by first | exact Or.inl rfl | exact Or.inr rfl))) (fun _ _ _ _ _ => pxts_nil) (fun _ _ _ _ _ => (px_def h__law_one_right hr (by decide) rfl passL (pxa_cons (px_var 8) (pxa_cons (px_var 9) (pxa_cons (px_var 7) (pxa_cons (px_var 10) pxa_nil)))))))) pxa_nil))))
  (pxs_one (pxs_ret px_bl))
  pxs_nil))))))))))
  (pxs_cons (pxs_if (PW.pt (pw_xor (pt_xc (op_neD hr.units) od_ne (PN.toX (pn_def h_row_by hr (by decide) rfl (passE (takes_of rfl rfl rfl rfl)) (pxa_cons px_int (pxa_cons (px_tup (pxa_cons (PN.toX (pn_lst (pxa_cons px_int (pxa_cons px_int pxa_nil)))) (pxa_cons (PN.toX (pn_lst (pxa_cons px_int (pxa_cons px_int pxa_nil)))) pxa_nil))) (pxa_cons px_int pxa_nil))))) (PN.toX (pn_lst (pxa_cons px_int (pxa_cons px_int (pxa_cons px_int pxa_nil))))) (nomark _)) (pw_xor1 (pt_xc (op_notN.or op_notBl) od_isnot (px_def h_next_one.toXO hr (by decide) rfl (passE (takes_of rfl rfl rfl rfl)) (pxa_cons (PN.toX (pn_lst (pxa_cons px_int (pxa_cons px_int (pxa_cons px_int pxa_nil))))) (pxa_cons (px_tup (pxa_cons (PN.toX (pn_lst (pxa_cons px_int (pxa_cons px_int pxa_nil)))) (pxa_cons (PN.toX (pn_lst (pxa_cons px_int (pxa_cons px_int pxa_nil)))) pxa_nil))) pxa_nil))) px_non (nomark _)))))
  (pxs_one (pxs_ret px_bl))
  pxs_nil)
  (pxs_cons (pxs_if (pt_xc (op_neD hr.units) od_ne (PN.toX (pn_def h_row_by hr (by decide) rfl (passE (takes_of rfl rfl rfl rfl)) (pxa_cons px_int (pxa_cons (px_tup (pxa_cons px_non (pxa_cons px_non pxa_nil))) (pxa_cons px_int pxa_nil))))) (PN.toX (pn_listRg1 rfl rfl L.b_list rfl L.b_range px_int)) (nomark _))
  (pxs_one (pxs_ret px_bl))
  pxs_nil)
  (pxs_one (pxs_ret (px_cmp (op_eqD hr.units) od_eq (px_def h_number_of hr (by decide) rfl (passE (takes_of rfl rfl rfl rfl)) (pxa_cons (PN.toX (pn_rev (PN.toX (pn_listRg1 rfl rfl L.b_list rfl L.b_range px_int)))) (pxa_cons (px_tup (pxa_cons px_non (pxa_cons px_non pxa_nil))) pxa_nil))) px_int (nomark _))))))))))
set_option maxHeartbeats 0 in
theorem lk_mk {K : PySem.W.Frag} {h : Heap} {mg : Str → Option Value} (X : K.In h) (G : h.Ns mainGlobals mg)
    (z_enumerate : PySem.W.nsIn K mainGlobals "enumerate" = some none)
    (z_len : PySem.W.nsIn K mainGlobals "len" = some none)
    (z_range : PySem.W.nsIn K mainGlobals "range" = some none)
    (z_max : PySem.W.nsIn K mainGlobals "max" = some none)
    (z_min : PySem.W.nsIn K mainGlobals "min" = some none)
    (z_sorted : PySem.W.nsIn K mainGlobals "sorted" = some none)
    (z_isinstance : PySem.W.nsIn K mainGlobals "isinstance" = some none)
    (z_int : PySem.W.nsIn K mainGlobals "int" = some none)
    (z_bool : PySem.W.nsIn K mainGlobals "bool" = some none)
    (z_list : PySem.W.nsIn K mainGlobals "list" = some none)
    (z_all : PySem.W.nsIn K mainGlobals "all" = some none)
    (z_zip : PySem.W.nsIn K mainGlobals "zip" = some none)
    (z_tuple : PySem.W.nsIn K mainGlobals "tuple" = some none)
    (z_sum : PySem.W.nsIn K mainGlobals "sum" = some none)
    (z_set : PySem.W.nsIn K mainGlobals "set" = some none)
    (z_abs : PySem.W.nsIn K mainGlobals "abs" = some none)
    {t_GREATEST : Tok} (g_GREATEST : PySem.W.nsIn K mainGlobals "GREATEST" = some (some (.int 12 t_GREATEST)))
    {t_MOST : Tok} (g_MOST : PySem.W.nsIn K mainGlobals "MOST" = some (some (.int 60 t_MOST)))
    {C_BadThings : Addr} (xa_BadThings : PySem.W.nsIn K mainGlobals "BadThings" = some (some (.ref C_BadThings))) (xe_BadThings : PySem.W.excIn K C_BadThings bmV "ValueError.__new__" = true) (xk_BadThings : PySem.W.keepIn K (.ref C_BadThings) = true) (xs_BadThings : PySem.W.subIn K (.ref C_BadThings) (.type "BaseException") = some true) (xt_BadThings : PySem.W.typeIn K (.ref C_BadThings) = some (.type "type"))
    {C_BadRow : Addr} (xa_BadRow : PySem.W.nsIn K mainGlobals "BadRow" = some (some (.ref C_BadRow))) (xe_BadRow : PySem.W.excIn K C_BadRow bmV "ValueError.__new__" = true) (xk_BadRow : PySem.W.keepIn K (.ref C_BadRow) = true) (xs_BadRow : PySem.W.subIn K (.ref C_BadRow) (.type "BaseException") = some true) (xt_BadRow : PySem.W.typeIn K (.ref C_BadRow) = some (.type "type"))
    {C_BadWish : Addr} (xa_BadWish : PySem.W.nsIn K mainGlobals "BadWish" = some (some (.ref C_BadWish))) (xe_BadWish : PySem.W.excIn K C_BadWish bmV "ValueError.__new__" = true) (xk_BadWish : PySem.W.keepIn K (.ref C_BadWish) = true) (xs_BadWish : PySem.W.subIn K (.ref C_BadWish) (.type "BaseException") = some true) (xt_BadWish : PySem.W.typeIn K (.ref C_BadWish) = some (.type "type"))
    {C_TooMany : Addr} (xa_TooMany : PySem.W.nsIn K mainGlobals "TooMany" = some (some (.ref C_TooMany))) (xe_TooMany : PySem.W.excIn K C_TooMany bmV "ValueError.__new__" = true) (xk_TooMany : PySem.W.keepIn K (.ref C_TooMany) = true) (xs_TooMany : PySem.W.subIn K (.ref C_TooMany) (.type "BaseException") = some true) (xt_TooMany : PySem.W.typeIn K (.ref C_TooMany) = some (.type "type"))
    {C_BadNumber : Addr} (xa_BadNumber : PySem.W.nsIn K mainGlobals "BadNumber" = some (some (.ref C_BadNumber))) (xe_BadNumber : PySem.W.excIn K C_BadNumber bmV "ValueError.__new__" = true) (xk_BadNumber : PySem.W.keepIn K (.ref C_BadNumber) = true) (xs_BadNumber : PySem.W.subIn K (.ref C_BadNumber) (.type "BaseException") = some true) (xt_BadNumber : PySem.W.typeIn K (.ref C_BadNumber) = some (.type "type"))
    {C_NotKept : Addr} (xa_NotKept : PySem.W.nsIn K mainGlobals "NotKept" = some (some (.ref C_NotKept))) (xe_NotKept : PySem.W.excIn K C_NotKept bmV "ValueError.__new__" = true) (xk_NotKept : PySem.W.keepIn K (.ref C_NotKept) = true) (xs_NotKept : PySem.W.subIn K (.ref C_NotKept) (.type "BaseException") = some true) (xt_NotKept : PySem.W.typeIn K (.ref C_NotKept) = some (.type "type"))
    {f_is_whole : Addr} {od_is_whole an_is_whole : Option Addr} {sl_is_whole : Array (Option Value)} {oc_is_whole kV_is_whole dc_is_whole pm_is_whole cd_is_whole ct_is_whole : Value} (a_is_whole : PySem.W.nsIn K mainGlobals "is_whole" = some (some (.ref f_is_whole))) (l_is_whole : K.lookup f_is_whole = some ⟨oc_is_whole, od_is_whole, .func (PySem.W.fnOf "is_whole" "is_whole" (defArgs s_is_whole) (defBody s_is_whole) (defScope s_is_whole) .none kV_is_whole dc_is_whole pm_is_whole an_is_whole cd_is_whole ct_is_whole), sl_is_whole⟩) (c_is_whole : PySem.W.codeIn K cd_is_whole "is_whole" = true) (k_is_whole : PySem.W.keepIn K (.ref f_is_whole) = true)
    {f_is_between : Addr} {od_is_between an_is_between : Option Addr} {sl_is_between : Array (Option Value)} {oc_is_between kV_is_between dc_is_between pm_is_between cd_is_between ct_is_between : Value} (a_is_between : PySem.W.nsIn K mainGlobals "is_between" = some (some (.ref f_is_between))) (l_is_between : K.lookup f_is_between = some ⟨oc_is_between, od_is_between, .func (PySem.W.fnOf "is_between" "is_between" (defArgs s_is_between) (defBody s_is_between) (defScope s_is_between) .none kV_is_between dc_is_between pm_is_between an_is_between cd_is_between ct_is_between), sl_is_between⟩) (c_is_between : PySem.W.codeIn K cd_is_between "is_between" = true) (k_is_between : PySem.W.keepIn K (.ref f_is_between) = true)
    {f_check_things : Addr} {od_check_things an_check_things : Option Addr} {sl_check_things : Array (Option Value)} {oc_check_things kV_check_things dc_check_things pm_check_things cd_check_things ct_check_things : Value} (a_check_things : PySem.W.nsIn K mainGlobals "check_things" = some (some (.ref f_check_things))) (l_check_things : K.lookup f_check_things = some ⟨oc_check_things, od_check_things, .func (PySem.W.fnOf "check_things" "check_things" (defArgs s_check_things) (defBody s_check_things) (defScope s_check_things) .none kV_check_things dc_check_things pm_check_things an_check_things cd_check_things ct_check_things), sl_check_things⟩) (c_check_things : PySem.W.codeIn K cd_check_things "check_things" = true) (k_check_things : PySem.W.keepIn K (.ref f_check_things) = true)
    {f_is_row : Addr} {od_is_row an_is_row : Option Addr} {sl_is_row : Array (Option Value)} {oc_is_row kV_is_row dc_is_row pm_is_row cd_is_row ct_is_row : Value} (a_is_row : PySem.W.nsIn K mainGlobals "is_row" = some (some (.ref f_is_row))) (l_is_row : K.lookup f_is_row = some ⟨oc_is_row, od_is_row, .func (PySem.W.fnOf "is_row" "is_row" (defArgs s_is_row) (defBody s_is_row) (defScope s_is_row) .none kV_is_row dc_is_row pm_is_row an_is_row cd_is_row ct_is_row), sl_is_row⟩) (c_is_row : PySem.W.codeIn K cd_is_row "is_row" = true) (k_is_row : PySem.W.keepIn K (.ref f_is_row) = true)
    {f_check_row : Addr} {od_check_row an_check_row : Option Addr} {sl_check_row : Array (Option Value)} {oc_check_row kV_check_row dc_check_row pm_check_row cd_check_row ct_check_row : Value} (a_check_row : PySem.W.nsIn K mainGlobals "check_row" = some (some (.ref f_check_row))) (l_check_row : K.lookup f_check_row = some ⟨oc_check_row, od_check_row, .func (PySem.W.fnOf "check_row" "check_row" (defArgs s_check_row) (defBody s_check_row) (defScope s_check_row) .none kV_check_row dc_check_row pm_check_row an_check_row cd_check_row ct_check_row), sl_check_row⟩) (c_check_row : PySem.W.codeIn K cd_check_row "check_row" = true) (k_check_row : PySem.W.keepIn K (.ref f_check_row) = true)
    {f_are_places : Addr} {od_are_places an_are_places : Option Addr} {sl_are_places : Array (Option Value)} {oc_are_places kV_are_places dc_are_places pm_are_places cd_are_places ct_are_places : Value} (a_are_places : PySem.W.nsIn K mainGlobals "are_places" = some (some (.ref f_are_places))) (l_are_places : K.lookup f_are_places = some ⟨oc_are_places, od_are_places, .func (PySem.W.fnOf "are_places" "are_places" (defArgs s_are_places) (defBody s_are_places) (defScope s_are_places) .none kV_are_places dc_are_places pm_are_places an_are_places cd_are_places ct_are_places), sl_are_places⟩) (c_are_places : PySem.W.codeIn K cd_are_places "are_places" = true) (k_are_places : PySem.W.keepIn K (.ref f_are_places) = true)
    {f_check_wish : Addr} {od_check_wish an_check_wish : Option Addr} {sl_check_wish : Array (Option Value)} {oc_check_wish kV_check_wish dc_check_wish pm_check_wish cd_check_wish ct_check_wish : Value} (a_check_wish : PySem.W.nsIn K mainGlobals "check_wish" = some (some (.ref f_check_wish))) (l_check_wish : K.lookup f_check_wish = some ⟨oc_check_wish, od_check_wish, .func (PySem.W.fnOf "check_wish" "check_wish" (defArgs s_check_wish) (defBody s_check_wish) (defScope s_check_wish) .none kV_check_wish dc_check_wish pm_check_wish an_check_wish cd_check_wish ct_check_wish), sl_check_wish⟩) (c_check_wish : PySem.W.codeIn K cd_check_wish "check_wish" = true) (k_check_wish : PySem.W.keepIn K (.ref f_check_wish) = true)
    {f_ranks_in : Addr} {od_ranks_in an_ranks_in : Option Addr} {sl_ranks_in : Array (Option Value)} {oc_ranks_in kV_ranks_in dc_ranks_in pm_ranks_in cd_ranks_in ct_ranks_in : Value} (a_ranks_in : PySem.W.nsIn K mainGlobals "ranks_in" = some (some (.ref f_ranks_in))) (l_ranks_in : K.lookup f_ranks_in = some ⟨oc_ranks_in, od_ranks_in, .func (PySem.W.fnOf "ranks_in" "ranks_in" (defArgs s_ranks_in) (defBody s_ranks_in) (defScope s_ranks_in) .none kV_ranks_in dc_ranks_in pm_ranks_in an_ranks_in cd_ranks_in ct_ranks_in), sl_ranks_in⟩) (c_ranks_in : PySem.W.codeIn K cd_ranks_in "ranks_in" = true) (k_ranks_in : PySem.W.keepIn K (.ref f_ranks_in) = true)
    {f_span : Addr} {od_span an_span : Option Addr} {sl_span : Array (Option Value)} {oc_span kV_span dc_span pm_span cd_span ct_span : Value} (a_span : PySem.W.nsIn K mainGlobals "span" = some (some (.ref f_span))) (l_span : K.lookup f_span = some ⟨oc_span, od_span, .func (PySem.W.fnOf "span" "span" (defArgs s_span) (defBody s_span) (defScope s_span) .none kV_span dc_span pm_span an_span cd_span ct_span), sl_span⟩) (c_span : PySem.W.codeIn K cd_span "span" = true) (k_span : PySem.W.keepIn K (.ref f_span) = true)
    {f_spans : Addr} {od_spans an_spans : Option Addr} {sl_spans : Array (Option Value)} {oc_spans kV_spans dc_spans pm_spans cd_spans ct_spans : Value} (a_spans : PySem.W.nsIn K mainGlobals "spans" = some (some (.ref f_spans))) (l_spans : K.lookup f_spans = some ⟨oc_spans, od_spans, .func (PySem.W.fnOf "spans" "spans" (defArgs s_spans) (defBody s_spans) (defScope s_spans) .none kV_spans dc_spans pm_spans an_spans cd_spans ct_spans), sl_spans⟩) (c_spans : PySem.W.codeIn K cd_spans "spans" = true) (k_spans : PySem.W.keepIn K (.ref f_spans) = true)
    {f_is_kept : Addr} {od_is_kept an_is_kept : Option Addr} {sl_is_kept : Array (Option Value)} {oc_is_kept kV_is_kept dc_is_kept pm_is_kept cd_is_kept ct_is_kept : Value} (a_is_kept : PySem.W.nsIn K mainGlobals "is_kept" = some (some (.ref f_is_kept))) (l_is_kept : K.lookup f_is_kept = some ⟨oc_is_kept, od_is_kept, .func (PySem.W.fnOf "is_kept" "is_kept" (defArgs s_is_kept) (defBody s_is_kept) (defScope s_is_kept) .none kV_is_kept dc_is_kept pm_is_kept an_is_kept cd_is_kept ct_is_kept), sl_is_kept⟩) (c_is_kept : PySem.W.codeIn K cd_is_kept "is_kept" = true) (k_is_kept : PySem.W.keepIn K (.ref f_is_kept) = true)
    {f_how_many : Addr} {od_how_many an_how_many : Option Addr} {sl_how_many : Array (Option Value)} {oc_how_many kV_how_many dc_how_many pm_how_many cd_how_many ct_how_many : Value} (a_how_many : PySem.W.nsIn K mainGlobals "how_many" = some (some (.ref f_how_many))) (l_how_many : K.lookup f_how_many = some ⟨oc_how_many, od_how_many, .func (PySem.W.fnOf "how_many" "how_many" (defArgs s_how_many) (defBody s_how_many) (defScope s_how_many) .none kV_how_many dc_how_many pm_how_many an_how_many cd_how_many ct_how_many), sl_how_many⟩) (c_how_many : PySem.W.codeIn K cd_how_many "how_many" = true) (k_how_many : PySem.W.keepIn K (.ref f_how_many) = true)
    {f_told_at : Addr} {od_told_at an_told_at : Option Addr} {sl_told_at : Array (Option Value)} {oc_told_at kV_told_at dc_told_at pm_told_at cd_told_at ct_told_at : Value} (a_told_at : PySem.W.nsIn K mainGlobals "told_at" = some (some (.ref f_told_at))) (l_told_at : K.lookup f_told_at = some ⟨oc_told_at, od_told_at, .func (PySem.W.fnOf "told_at" "told_at" (defArgs s_told_at) (defBody s_told_at) (defScope s_told_at) .none kV_told_at dc_told_at pm_told_at an_told_at cd_told_at ct_told_at), sl_told_at⟩) (c_told_at : PySem.W.codeIn K cd_told_at "told_at" = true) (k_told_at : PySem.W.keepIn K (.ref f_told_at) = true)
    {f_ways : Addr} {od_ways an_ways : Option Addr} {sl_ways : Array (Option Value)} {oc_ways kV_ways dc_ways pm_ways cd_ways ct_ways : Value} (a_ways : PySem.W.nsIn K mainGlobals "ways" = some (some (.ref f_ways))) (l_ways : K.lookup f_ways = some ⟨oc_ways, od_ways, .func (PySem.W.fnOf "ways" "ways" (defArgs s_ways) (defBody s_ways) (defScope s_ways) .none kV_ways dc_ways pm_ways an_ways cd_ways ct_ways), sl_ways⟩) (c_ways : PySem.W.codeIn K cd_ways "ways" = true) (k_ways : PySem.W.keepIn K (.ref f_ways) = true)
    {f_ways_behind : Addr} {od_ways_behind an_ways_behind : Option Addr} {sl_ways_behind : Array (Option Value)} {oc_ways_behind kV_ways_behind dc_ways_behind pm_ways_behind cd_ways_behind ct_ways_behind : Value} (a_ways_behind : PySem.W.nsIn K mainGlobals "ways_behind" = some (some (.ref f_ways_behind))) (l_ways_behind : K.lookup f_ways_behind = some ⟨oc_ways_behind, od_ways_behind, .func (PySem.W.fnOf "ways_behind" "ways_behind" (defArgs s_ways_behind) (defBody s_ways_behind) (defScope s_ways_behind) .none kV_ways_behind dc_ways_behind pm_ways_behind an_ways_behind cd_ways_behind ct_ways_behind), sl_ways_behind⟩) (c_ways_behind : PySem.W.codeIn K cd_ways_behind "ways_behind" = true) (k_ways_behind : PySem.W.keepIn K (.ref f_ways_behind) = true)
    {f_row_at : Addr} {od_row_at an_row_at : Option Addr} {sl_row_at : Array (Option Value)} {oc_row_at kV_row_at dc_row_at pm_row_at cd_row_at ct_row_at : Value} (a_row_at : PySem.W.nsIn K mainGlobals "row_at" = some (some (.ref f_row_at))) (l_row_at : K.lookup f_row_at = some ⟨oc_row_at, od_row_at, .func (PySem.W.fnOf "row_at" "row_at" (defArgs s_row_at) (defBody s_row_at) (defScope s_row_at) .none kV_row_at dc_row_at pm_row_at an_row_at cd_row_at ct_row_at), sl_row_at⟩) (c_row_at : PySem.W.codeIn K cd_row_at "row_at" = true) (k_row_at : PySem.W.keepIn K (.ref f_row_at) = true)
    {f_row_by : Addr} {od_row_by an_row_by : Option Addr} {sl_row_by : Array (Option Value)} {oc_row_by kV_row_by dc_row_by pm_row_by cd_row_by ct_row_by : Value} (a_row_by : PySem.W.nsIn K mainGlobals "row_by" = some (some (.ref f_row_by))) (l_row_by : K.lookup f_row_by = some ⟨oc_row_by, od_row_by, .func (PySem.W.fnOf "row_by" "row_by" (defArgs s_row_by) (defBody s_row_by) (defScope s_row_by) .none kV_row_by dc_row_by pm_row_by an_row_by cd_row_by ct_row_by), sl_row_by⟩) (c_row_by : PySem.W.codeIn K cd_row_by "row_by" = true) (k_row_by : PySem.W.keepIn K (.ref f_row_by) = true)
    {f_number_of : Addr} {od_number_of an_number_of : Option Addr} {sl_number_of : Array (Option Value)} {oc_number_of kV_number_of dc_number_of pm_number_of cd_number_of ct_number_of : Value} (a_number_of : PySem.W.nsIn K mainGlobals "number_of" = some (some (.ref f_number_of))) (l_number_of : K.lookup f_number_of = some ⟨oc_number_of, od_number_of, .func (PySem.W.fnOf "number_of" "number_of" (defArgs s_number_of) (defBody s_number_of) (defScope s_number_of) .none kV_number_of dc_number_of pm_number_of an_number_of cd_number_of ct_number_of), sl_number_of⟩) (c_number_of : PySem.W.codeIn K cd_number_of "number_of" = true) (k_number_of : PySem.W.keepIn K (.ref f_number_of) = true)
    {f_next_one : Addr} {od_next_one an_next_one : Option Addr} {sl_next_one : Array (Option Value)} {oc_next_one kV_next_one dc_next_one pm_next_one cd_next_one ct_next_one : Value} (a_next_one : PySem.W.nsIn K mainGlobals "next_one" = some (some (.ref f_next_one))) (l_next_one : K.lookup f_next_one = some ⟨oc_next_one, od_next_one, .func (PySem.W.fnOf "next_one" "next_one" (defArgs s_next_one) (defBody s_next_one) (defScope s_next_one) .none kV_next_one dc_next_one pm_next_one an_next_one cd_next_one ct_next_one), sl_next_one⟩) (c_next_one : PySem.W.codeIn K cd_next_one "next_one" = true) (k_next_one : PySem.W.keepIn K (.ref f_next_one) = true)
    {f__law_number : Addr} {od__law_number an__law_number : Option Addr} {sl__law_number : Array (Option Value)} {oc__law_number kV__law_number dc__law_number pm__law_number cd__law_number ct__law_number : Value} (a__law_number : PySem.W.nsIn K mainGlobals "_law_number" = some (some (.ref f__law_number))) (l__law_number : K.lookup f__law_number = some ⟨oc__law_number, od__law_number, .func (PySem.W.fnOf "_law_number" "_law_number" (defArgs s__law_number) (defBody s__law_number) (defScope s__law_number) .none kV__law_number dc__law_number pm__law_number an__law_number cd__law_number ct__law_number), sl__law_number⟩) (c__law_number : PySem.W.codeIn K cd__law_number "_law_number" = true) (k__law_number : PySem.W.keepIn K (.ref f__law_number) = true)
    {f__law_drawn_wish : Addr} {od__law_drawn_wish an__law_drawn_wish : Option Addr} {sl__law_drawn_wish : Array (Option Value)} {oc__law_drawn_wish kV__law_drawn_wish dc__law_drawn_wish pm__law_drawn_wish cd__law_drawn_wish ct__law_drawn_wish : Value} (a__law_drawn_wish : PySem.W.nsIn K mainGlobals "_law_drawn_wish" = some (some (.ref f__law_drawn_wish))) (l__law_drawn_wish : K.lookup f__law_drawn_wish = some ⟨oc__law_drawn_wish, od__law_drawn_wish, .func (PySem.W.fnOf "_law_drawn_wish" "_law_drawn_wish" (defArgs s__law_drawn_wish) (defBody s__law_drawn_wish) (defScope s__law_drawn_wish) .none kV__law_drawn_wish dc__law_drawn_wish pm__law_drawn_wish an__law_drawn_wish cd__law_drawn_wish ct__law_drawn_wish), sl__law_drawn_wish⟩) (c__law_drawn_wish : PySem.W.codeIn K cd__law_drawn_wish "_law_drawn_wish" = true) (k__law_drawn_wish : PySem.W.keepIn K (.ref f__law_drawn_wish) = true)
    {f__law_highs : Addr} {od__law_highs an__law_highs : Option Addr} {sl__law_highs : Array (Option Value)} {oc__law_highs kV__law_highs dc__law_highs pm__law_highs cd__law_highs ct__law_highs : Value} (a__law_highs : PySem.W.nsIn K mainGlobals "_law_highs" = some (some (.ref f__law_highs))) (l__law_highs : K.lookup f__law_highs = some ⟨oc__law_highs, od__law_highs, .func (PySem.W.fnOf "_law_highs" "_law_highs" (defArgs s__law_highs) (defBody s__law_highs) (defScope s__law_highs) .none kV__law_highs dc__law_highs pm__law_highs an__law_highs cd__law_highs ct__law_highs), sl__law_highs⟩) (c__law_highs : PySem.W.codeIn K cd__law_highs "_law_highs" = true) (k__law_highs : PySem.W.keepIn K (.ref f__law_highs) = true)
    {f__law_lows : Addr} {od__law_lows an__law_lows : Option Addr} {sl__law_lows : Array (Option Value)} {oc__law_lows kV__law_lows dc__law_lows pm__law_lows cd__law_lows ct__law_lows : Value} (a__law_lows : PySem.W.nsIn K mainGlobals "_law_lows" = some (some (.ref f__law_lows))) (l__law_lows : K.lookup f__law_lows = some ⟨oc__law_lows, od__law_lows, .func (PySem.W.fnOf "_law_lows" "_law_lows" (defArgs s__law_lows) (defBody s__law_lows) (defScope s__law_lows) .none kV__law_lows dc__law_lows pm__law_lows an__law_lows cd__law_lows ct__law_lows), sl__law_lows⟩) (c__law_lows : PySem.W.codeIn K cd__law_lows "_law_lows" = true) (k__law_lows : PySem.W.keepIn K (.ref f__law_lows) = true)
    {f__law_kept : Addr} {od__law_kept an__law_kept : Option Addr} {sl__law_kept : Array (Option Value)} {oc__law_kept kV__law_kept dc__law_kept pm__law_kept cd__law_kept ct__law_kept : Value} (a__law_kept : PySem.W.nsIn K mainGlobals "_law_kept" = some (some (.ref f__law_kept))) (l__law_kept : K.lookup f__law_kept = some ⟨oc__law_kept, od__law_kept, .func (PySem.W.fnOf "_law_kept" "_law_kept" (defArgs s__law_kept) (defBody s__law_kept) (defScope s__law_kept) .none kV__law_kept dc__law_kept pm__law_kept an__law_kept cd__law_kept ct__law_kept), sl__law_kept⟩) (c__law_kept : PySem.W.codeIn K cd__law_kept "_law_kept" = true) (k__law_kept : PySem.W.keepIn K (.ref f__law_kept) = true)
    {f__law_all_rows : Addr} {od__law_all_rows an__law_all_rows : Option Addr} {sl__law_all_rows : Array (Option Value)} {oc__law_all_rows kV__law_all_rows dc__law_all_rows pm__law_all_rows cd__law_all_rows ct__law_all_rows : Value} (a__law_all_rows : PySem.W.nsIn K mainGlobals "_law_all_rows" = some (some (.ref f__law_all_rows))) (l__law_all_rows : K.lookup f__law_all_rows = some ⟨oc__law_all_rows, od__law_all_rows, .func (PySem.W.fnOf "_law_all_rows" "_law_all_rows" (defArgs s__law_all_rows) (defBody s__law_all_rows) (defScope s__law_all_rows) .none kV__law_all_rows dc__law_all_rows pm__law_all_rows an__law_all_rows cd__law_all_rows ct__law_all_rows), sl__law_all_rows⟩) (c__law_all_rows : PySem.W.codeIn K cd__law_all_rows "_law_all_rows" = true) (k__law_all_rows : PySem.W.keepIn K (.ref f__law_all_rows) = true)
    {f__law_one_right : Addr} {od__law_one_right an__law_one_right : Option Addr} {sl__law_one_right : Array (Option Value)} {oc__law_one_right kV__law_one_right dc__law_one_right pm__law_one_right cd__law_one_right ct__law_one_right : Value} (a__law_one_right : PySem.W.nsIn K mainGlobals "_law_one_right" = some (some (.ref f__law_one_right))) (l__law_one_right : K.lookup f__law_one_right = some ⟨oc__law_one_right, od__law_one_right, .func (PySem.W.fnOf "_law_one_right" "_law_one_right" (defArgs s__law_one_right) (defBody s__law_one_right) (defScope s__law_one_right) .none kV__law_one_right dc__law_one_right pm__law_one_right an__law_one_right cd__law_one_right ct__law_one_right), sl__law_one_right⟩) (c__law_one_right : PySem.W.codeIn K cd__law_one_right "_law_one_right" = true) (k__law_one_right : PySem.W.keepIn K (.ref f__law_one_right) = true)
    {f_law : Addr} {od_law an_law : Option Addr} {sl_law : Array (Option Value)} {oc_law kV_law dc_law pm_law cd_law ct_law : Value} (a_law : PySem.W.nsIn K mainGlobals "law" = some (some (.ref f_law))) (l_law : K.lookup f_law = some ⟨oc_law, od_law, .func (PySem.W.fnOf "law" "law" (defArgs s_law) (defBody s_law) (defScope s_law) .none kV_law dc_law pm_law an_law cd_law ct_law), sl_law⟩) (c_law : PySem.W.codeIn K cd_law "law" = true) (k_law : PySem.W.keepIn K (.ref f_law) = true) : Lk K mg :=
  ⟨PySem.W.mg_none_of X G z_enumerate, PySem.W.mg_none_of X G z_len, PySem.W.mg_none_of X G z_range, PySem.W.mg_none_of X G z_max, PySem.W.mg_none_of X G z_min, PySem.W.mg_none_of X G z_sorted, PySem.W.mg_none_of X G z_isinstance, PySem.W.mg_none_of X G z_int, PySem.W.mg_none_of X G z_bool, PySem.W.mg_none_of X G z_list, PySem.W.mg_none_of X G z_all, PySem.W.mg_none_of X G z_zip, PySem.W.mg_none_of X G z_tuple, PySem.W.mg_none_of X G z_sum, PySem.W.mg_none_of X G z_set, PySem.W.mg_none_of X G z_abs, int_mk X G g_GREATEST, int_mk X G g_MOST, exc_mk X G xa_BadThings xe_BadThings xk_BadThings xs_BadThings xt_BadThings, exc_mk X G xa_BadRow xe_BadRow xk_BadRow xs_BadRow xt_BadRow, exc_mk X G xa_BadWish xe_BadWish xk_BadWish xs_BadWish xt_BadWish, exc_mk X G xa_TooMany xe_TooMany xk_TooMany xs_TooMany xt_TooMany, exc_mk X G xa_BadNumber xe_BadNumber xk_BadNumber xs_BadNumber xt_BadNumber, exc_mk X G xa_NotKept xe_NotKept xk_NotKept xs_NotKept xt_NotKept, at_mk X G a_is_whole l_is_whole c_is_whole k_is_whole, at_mk X G a_is_between l_is_between c_is_between k_is_between, at_mk X G a_check_things l_check_things c_check_things k_check_things, at_mk X G a_is_row l_is_row c_is_row k_is_row, at_mk X G a_check_row l_check_row c_check_row k_check_row, at_mk X G a_are_places l_are_places c_are_places k_are_places, at_mk X G a_check_wish l_check_wish c_check_wish k_check_wish, at_mk X G a_ranks_in l_ranks_in c_ranks_in k_ranks_in, at_mk X G a_span l_span c_span k_span, at_mk X G a_spans l_spans c_spans k_spans, at_mk X G a_is_kept l_is_kept c_is_kept k_is_kept, at_mk X G a_how_many l_how_many c_how_many k_how_many, at_mk X G a_told_at l_told_at c_told_at k_told_at, at_mk X G a_ways l_ways c_ways k_ways, at_mk X G a_ways_behind l_ways_behind c_ways_behind k_ways_behind, at_mk X G a_row_at l_row_at c_row_at k_row_at, at_mk X G a_row_by l_row_by c_row_by k_row_by, at_mk X G a_number_of l_number_of c_number_of k_number_of, at_mk X G a_next_one l_next_one c_next_one k_next_one, at_mk X G a__law_number l__law_number c__law_number k__law_number, at_mk X G a__law_drawn_wish l__law_drawn_wish c__law_drawn_wish k__law_drawn_wish, at_mk X G a__law_highs l__law_highs c__law_highs k__law_highs, at_mk X G a__law_lows l__law_lows c__law_lows k__law_lows, at_mk X G a__law_kept l__law_kept c__law_kept k__law_kept, at_mk X G a__law_all_rows l__law_all_rows c__law_all_rows k__law_all_rows, at_mk X G a__law_one_right l__law_one_right c__law_one_right k__law_one_right, at_mk X G a_law l_law c_law k_law⟩
theorem all_ok {P : Program} {w : World} {K : PySem.W.Frag} {mg : Str → Option Value} {base : Heap} (L : Lk K mg) (f : Addr) (cdv : Value) (A : Around) (outer : List PySem.Env) (s : Shared) (H : Hp) (E : XK) (hr : Room 19 (A.deeper (PyProof.Rows.envOfC "law" (defScope s_law) s.heap.objs.size f cdv))) : PXSs (cxOf (L2.CX P w) P w K mg base N_law "law" (defScope s_law) f cdv A outer s H E) E (defBody s_law) S_law := by
  have h_is_whole := ok_is_whole (P := P) (w := w) (base := base) L
  have h_is_between := ok_is_between (P := P) (w := w) (base := base) L h_is_whole
  have h_check_things := ok_check_things (P := P) (w := w) (base := base) L h_is_between
  have h_is_row := ok_is_row (P := P) (w := w) (base := base) L h_is_whole
  have h_check_row := ok_check_row (P := P) (w := w) (base := base) L h_is_row
  have h_are_places := ok_are_places (P := P) (w := w) (base := base) L h_is_between
  have h_check_wish := ok_check_wish (P := P) (w := w) (base := base) L h_are_places
  have h_ranks_in := ok_ranks_in (P := P) (w := w) (base := base) L
  have h_span := ok_span (P := P) (w := w) (base := base) L
  have h_spans := ok_spans (P := P) (w := w) (base := base) L h_span
  have h_is_kept := ok_is_kept (P := P) (w := w) (base := base) L h_ranks_in h_spans
  have h_how_many := ok_how_many (P := P) (w := w) (base := base) L h_check_things h_check_wish h_spans
  have h_told_at := ok_told_at (P := P) (w := w) (base := base) L
  have h_ways := ok_ways (P := P) (w := w) (base := base) L h_told_at
  have h_ways_behind := ok_ways_behind (P := P) (w := w) (base := base) L h_told_at h_ways
  have h_row_at := ok_row_at (P := P) (w := w) (base := base) L h_ways_behind
  have h_row_by := ok_row_by (P := P) (w := w) (base := base) L h_is_between h_how_many h_row_at
  have h_number_of := ok_number_of (P := P) (w := w) (base := base) L h_check_row h_check_wish h_is_kept h_ways_behind
  have h_next_one := ok_next_one (P := P) (w := w) (base := base) L h_how_many h_row_at h_number_of
  have h__law_number := ok__law_number (P := P) (w := w) (base := base) L
  have h__law_drawn_wish := ok__law_drawn_wish (P := P) (w := w) (base := base) L h__law_number
  have h__law_highs := ok__law_highs (P := P) (w := w) (base := base) L
  have h__law_lows := ok__law_lows (P := P) (w := w) (base := base) L
  have h__law_kept := ok__law_kept (P := P) (w := w) (base := base) L h__law_highs h__law_lows
  have h__law_all_rows := ok__law_all_rows (P := P) (w := w) (base := base) L
  have h__law_one_right := ok__law_one_right (P := P) (w := w) (base := base) L h_row_by h_number_of h_next_one h__law_kept
  exact bd_law L h_how_many h_row_by h_number_of h_next_one h__law_drawn_wish h__law_kept h__law_all_rows h__law_one_right f cdv A outer s H E hr
set_option maxHeartbeats 0 in
theorem fin_mk {P : Program} {w : World} {K : PySem.W.Frag} {h : Heap} {mg : Str → Option Value} {fa : Addr} (X : K.In h) (G : h.Ns mainGlobals mg) (hmg : mg "law" = some (.ref fa))
    (z_enumerate : PySem.W.nsIn K mainGlobals "enumerate" = some none)
    (z_len : PySem.W.nsIn K mainGlobals "len" = some none)
    (z_range : PySem.W.nsIn K mainGlobals "range" = some none)
    (z_max : PySem.W.nsIn K mainGlobals "max" = some none)
    (z_min : PySem.W.nsIn K mainGlobals "min" = some none)
    (z_sorted : PySem.W.nsIn K mainGlobals "sorted" = some none)
    (z_isinstance : PySem.W.nsIn K mainGlobals "isinstance" = some none)
    (z_int : PySem.W.nsIn K mainGlobals "int" = some none)
    (z_bool : PySem.W.nsIn K mainGlobals "bool" = some none)
    (z_list : PySem.W.nsIn K mainGlobals "list" = some none)
    (z_all : PySem.W.nsIn K mainGlobals "all" = some none)
    (z_zip : PySem.W.nsIn K mainGlobals "zip" = some none)
    (z_tuple : PySem.W.nsIn K mainGlobals "tuple" = some none)
    (z_sum : PySem.W.nsIn K mainGlobals "sum" = some none)
    (z_set : PySem.W.nsIn K mainGlobals "set" = some none)
    (z_abs : PySem.W.nsIn K mainGlobals "abs" = some none)
    {t_GREATEST : Tok} (g_GREATEST : PySem.W.nsIn K mainGlobals "GREATEST" = some (some (.int 12 t_GREATEST)))
    {t_MOST : Tok} (g_MOST : PySem.W.nsIn K mainGlobals "MOST" = some (some (.int 60 t_MOST)))
    {C_BadThings : Addr} (xa_BadThings : PySem.W.nsIn K mainGlobals "BadThings" = some (some (.ref C_BadThings))) (xe_BadThings : PySem.W.excIn K C_BadThings bmV "ValueError.__new__" = true) (xk_BadThings : PySem.W.keepIn K (.ref C_BadThings) = true) (xs_BadThings : PySem.W.subIn K (.ref C_BadThings) (.type "BaseException") = some true) (xt_BadThings : PySem.W.typeIn K (.ref C_BadThings) = some (.type "type"))
    {C_BadRow : Addr} (xa_BadRow : PySem.W.nsIn K mainGlobals "BadRow" = some (some (.ref C_BadRow))) (xe_BadRow : PySem.W.excIn K C_BadRow bmV "ValueError.__new__" = true) (xk_BadRow : PySem.W.keepIn K (.ref C_BadRow) = true) (xs_BadRow : PySem.W.subIn K (.ref C_BadRow) (.type "BaseException") = some true) (xt_BadRow : PySem.W.typeIn K (.ref C_BadRow) = some (.type "type"))
    {C_BadWish : Addr} (xa_BadWish : PySem.W.nsIn K mainGlobals "BadWish" = some (some (.ref C_BadWish))) (xe_BadWish : PySem.W.excIn K C_BadWish bmV "ValueError.__new__" = true) (xk_BadWish : PySem.W.keepIn K (.ref C_BadWish) = true) (xs_BadWish : PySem.W.subIn K (.ref C_BadWish) (.type "BaseException") = some true) (xt_BadWish : PySem.W.typeIn K (.ref C_BadWish) = some (.type "type"))
    {C_TooMany : Addr} (xa_TooMany : PySem.W.nsIn K mainGlobals "TooMany" = some (some (.ref C_TooMany))) (xe_TooMany : PySem.W.excIn K C_TooMany bmV "ValueError.__new__" = true) (xk_TooMany : PySem.W.keepIn K (.ref C_TooMany) = true) (xs_TooMany : PySem.W.subIn K (.ref C_TooMany) (.type "BaseException") = some true) (xt_TooMany : PySem.W.typeIn K (.ref C_TooMany) = some (.type "type"))
    {C_BadNumber : Addr} (xa_BadNumber : PySem.W.nsIn K mainGlobals "BadNumber" = some (some (.ref C_BadNumber))) (xe_BadNumber : PySem.W.excIn K C_BadNumber bmV "ValueError.__new__" = true) (xk_BadNumber : PySem.W.keepIn K (.ref C_BadNumber) = true) (xs_BadNumber : PySem.W.subIn K (.ref C_BadNumber) (.type "BaseException") = some true) (xt_BadNumber : PySem.W.typeIn K (.ref C_BadNumber) = some (.type "type"))
    {C_NotKept : Addr} (xa_NotKept : PySem.W.nsIn K mainGlobals "NotKept" = some (some (.ref C_NotKept))) (xe_NotKept : PySem.W.excIn K C_NotKept bmV "ValueError.__new__" = true) (xk_NotKept : PySem.W.keepIn K (.ref C_NotKept) = true) (xs_NotKept : PySem.W.subIn K (.ref C_NotKept) (.type "BaseException") = some true) (xt_NotKept : PySem.W.typeIn K (.ref C_NotKept) = some (.type "type"))
    {f_is_whole : Addr} {od_is_whole an_is_whole : Option Addr} {sl_is_whole : Array (Option Value)} {oc_is_whole kV_is_whole dc_is_whole pm_is_whole cd_is_whole ct_is_whole : Value} (a_is_whole : PySem.W.nsIn K mainGlobals "is_whole" = some (some (.ref f_is_whole))) (l_is_whole : K.lookup f_is_whole = some ⟨oc_is_whole, od_is_whole, .func (PySem.W.fnOf "is_whole" "is_whole" (defArgs s_is_whole) (defBody s_is_whole) (defScope s_is_whole) .none kV_is_whole dc_is_whole pm_is_whole an_is_whole cd_is_whole ct_is_whole), sl_is_whole⟩) (c_is_whole : PySem.W.codeIn K cd_is_whole "is_whole" = true) (k_is_whole : PySem.W.keepIn K (.ref f_is_whole) = true)
    {f_is_between : Addr} {od_is_between an_is_between : Option Addr} {sl_is_between : Array (Option Value)} {oc_is_between kV_is_between dc_is_between pm_is_between cd_is_between ct_is_between : Value} (a_is_between : PySem.W.nsIn K mainGlobals "is_between" = some (some (.ref f_is_between))) (l_is_between : K.lookup f_is_between = some ⟨oc_is_between, od_is_between, .func (PySem.W.fnOf "is_between" "is_between" (defArgs s_is_between) (defBody s_is_between) (defScope s_is_between) .none kV_is_between dc_is_between pm_is_between an_is_between cd_is_between ct_is_between), sl_is_between⟩) (c_is_between : PySem.W.codeIn K cd_is_between "is_between" = true) (k_is_between : PySem.W.keepIn K (.ref f_is_between) = true)
    {f_check_things : Addr} {od_check_things an_check_things : Option Addr} {sl_check_things : Array (Option Value)} {oc_check_things kV_check_things dc_check_things pm_check_things cd_check_things ct_check_things : Value} (a_check_things : PySem.W.nsIn K mainGlobals "check_things" = some (some (.ref f_check_things))) (l_check_things : K.lookup f_check_things = some ⟨oc_check_things, od_check_things, .func (PySem.W.fnOf "check_things" "check_things" (defArgs s_check_things) (defBody s_check_things) (defScope s_check_things) .none kV_check_things dc_check_things pm_check_things an_check_things cd_check_things ct_check_things), sl_check_things⟩) (c_check_things : PySem.W.codeIn K cd_check_things "check_things" = true) (k_check_things : PySem.W.keepIn K (.ref f_check_things) = true)
    {f_is_row : Addr} {od_is_row an_is_row : Option Addr} {sl_is_row : Array (Option Value)} {oc_is_row kV_is_row dc_is_row pm_is_row cd_is_row ct_is_row : Value} (a_is_row : PySem.W.nsIn K mainGlobals "is_row" = some (some (.ref f_is_row))) (l_is_row : K.lookup f_is_row = some ⟨oc_is_row, od_is_row, .func (PySem.W.fnOf "is_row" "is_row" (defArgs s_is_row) (defBody s_is_row) (defScope s_is_row) .none kV_is_row dc_is_row pm_is_row an_is_row cd_is_row ct_is_row), sl_is_row⟩) (c_is_row : PySem.W.codeIn K cd_is_row "is_row" = true) (k_is_row : PySem.W.keepIn K (.ref f_is_row) = true)
    {f_check_row : Addr} {od_check_row an_check_row : Option Addr} {sl_check_row : Array (Option Value)} {oc_check_row kV_check_row dc_check_row pm_check_row cd_check_row ct_check_row : Value} (a_check_row : PySem.W.nsIn K mainGlobals "check_row" = some (some (.ref f_check_row))) (l_check_row : K.lookup f_check_row = some ⟨oc_check_row, od_check_row, .func (PySem.W.fnOf "check_row" "check_row" (defArgs s_check_row) (defBody s_check_row) (defScope s_check_row) .none kV_check_row dc_check_row pm_check_row an_check_row cd_check_row ct_check_row), sl_check_row⟩) (c_check_row : PySem.W.codeIn K cd_check_row "check_row" = true) (k_check_row : PySem.W.keepIn K (.ref f_check_row) = true)
    {f_are_places : Addr} {od_are_places an_are_places : Option Addr} {sl_are_places : Array (Option Value)} {oc_are_places kV_are_places dc_are_places pm_are_places cd_are_places ct_are_places : Value} (a_are_places : PySem.W.nsIn K mainGlobals "are_places" = some (some (.ref f_are_places))) (l_are_places : K.lookup f_are_places = some ⟨oc_are_places, od_are_places, .func (PySem.W.fnOf "are_places" "are_places" (defArgs s_are_places) (defBody s_are_places) (defScope s_are_places) .none kV_are_places dc_are_places pm_are_places an_are_places cd_are_places ct_are_places), sl_are_places⟩) (c_are_places : PySem.W.codeIn K cd_are_places "are_places" = true) (k_are_places : PySem.W.keepIn K (.ref f_are_places) = true)
    {f_check_wish : Addr} {od_check_wish an_check_wish : Option Addr} {sl_check_wish : Array (Option Value)} {oc_check_wish kV_check_wish dc_check_wish pm_check_wish cd_check_wish ct_check_wish : Value} (a_check_wish : PySem.W.nsIn K mainGlobals "check_wish" = some (some (.ref f_check_wish))) (l_check_wish : K.lookup f_check_wish = some ⟨oc_check_wish, od_check_wish, .func (PySem.W.fnOf "check_wish" "check_wish" (defArgs s_check_wish) (defBody s_check_wish) (defScope s_check_wish) .none kV_check_wish dc_check_wish pm_check_wish an_check_wish cd_check_wish ct_check_wish), sl_check_wish⟩) (c_check_wish : PySem.W.codeIn K cd_check_wish "check_wish" = true) (k_check_wish : PySem.W.keepIn K (.ref f_check_wish) = true)
    {f_ranks_in : Addr} {od_ranks_in an_ranks_in : Option Addr} {sl_ranks_in : Array (Option Value)} {oc_ranks_in kV_ranks_in dc_ranks_in pm_ranks_in cd_ranks_in ct_ranks_in : Value} (a_ranks_in : PySem.W.nsIn K mainGlobals "ranks_in" = some (some (.ref f_ranks_in))) (l_ranks_in : K.lookup f_ranks_in = some ⟨oc_ranks_in, od_ranks_in, .func (PySem.W.fnOf "ranks_in" "ranks_in" (defArgs s_ranks_in) (defBody s_ranks_in) (defScope s_ranks_in) .none kV_ranks_in dc_ranks_in pm_ranks_in an_ranks_in cd_ranks_in ct_ranks_in), sl_ranks_in⟩) (c_ranks_in : PySem.W.codeIn K cd_ranks_in "ranks_in" = true) (k_ranks_in : PySem.W.keepIn K (.ref f_ranks_in) = true)
    {f_span : Addr} {od_span an_span : Option Addr} {sl_span : Array (Option Value)} {oc_span kV_span dc_span pm_span cd_span ct_span : Value} (a_span : PySem.W.nsIn K mainGlobals "span" = some (some (.ref f_span))) (l_span : K.lookup f_span = some ⟨oc_span, od_span, .func (PySem.W.fnOf "span" "span" (defArgs s_span) (defBody s_span) (defScope s_span) .none kV_span dc_span pm_span an_span cd_span ct_span), sl_span⟩) (c_span : PySem.W.codeIn K cd_span "span" = true) (k_span : PySem.W.keepIn K (.ref f_span) = true)
    {f_spans : Addr} {od_spans an_spans : Option Addr} {sl_spans : Array (Option Value)} {oc_spans kV_spans dc_spans pm_spans cd_spans ct_spans : Value} (a_spans : PySem.W.nsIn K mainGlobals "spans" = some (some (.ref f_spans))) (l_spans : K.lookup f_spans = some ⟨oc_spans, od_spans, .func (PySem.W.fnOf "spans" "spans" (defArgs s_spans) (defBody s_spans) (defScope s_spans) .none kV_spans dc_spans pm_spans an_spans cd_spans ct_spans), sl_spans⟩) (c_spans : PySem.W.codeIn K cd_spans "spans" = true) (k_spans : PySem.W.keepIn K (.ref f_spans) = true)
    {f_is_kept : Addr} {od_is_kept an_is_kept : Option Addr} {sl_is_kept : Array (Option Value)} {oc_is_kept kV_is_kept dc_is_kept pm_is_kept cd_is_kept ct_is_kept : Value} (a_is_kept : PySem.W.nsIn K mainGlobals "is_kept" = some (some (.ref f_is_kept))) (l_is_kept : K.lookup f_is_kept = some ⟨oc_is_kept, od_is_kept, .func (PySem.W.fnOf "is_kept" "is_kept" (defArgs s_is_kept) (defBody s_is_kept) (defScope s_is_kept) .none kV_is_kept dc_is_kept pm_is_kept an_is_kept cd_is_kept ct_is_kept), sl_is_kept⟩) (c_is_kept : PySem.W.codeIn K cd_is_kept "is_kept" = true) (k_is_kept : PySem.W.keepIn K (.ref f_is_kept) = true)
    {f_how_many : Addr} {od_how_many an_how_many : Option Addr} {sl_how_many : Array (Option Value)} {oc_how_many kV_how_many dc_how_many pm_how_many cd_how_many ct_how_many : Value} (a_how_many : PySem.W.nsIn K mainGlobals "how_many" = some (some (.ref f_how_many))) (l_how_many : K.lookup f_how_many = some ⟨oc_how_many, od_how_many, .func (PySem.W.fnOf "how_many" "how_many" (defArgs s_how_many) (defBody s_how_many) (defScope s_how_many) .none kV_how_many dc_how_many pm_how_many an_how_many cd_how_many ct_how_many), sl_how_many⟩) (c_how_many : PySem.W.codeIn K cd_how_many "how_many" = true) (k_how_many : PySem.W.keepIn K (.ref f_how_many) = true)
    {f_told_at : Addr} {od_told_at an_told_at : Option Addr} {sl_told_at : Array (Option Value)} {oc_told_at kV_told_at dc_told_at pm_told_at cd_told_at ct_told_at : Value} (a_told_at : PySem.W.nsIn K mainGlobals "told_at" = some (some (.ref f_told_at))) (l_told_at : K.lookup f_told_at = some ⟨oc_told_at, od_told_at, .func (PySem.W.fnOf "told_at" "told_at" (defArgs s_told_at) (defBody s_told_at) (defScope s_told_at) .none kV_told_at dc_told_at pm_told_at an_told_at cd_told_at ct_told_at), sl_told_at⟩) (c_told_at : PySem.W.codeIn K cd_told_at "told_at" = true) (k_told_at : PySem.W.keepIn K (.ref f_told_at) = true)
    {f_ways : Addr} {od_ways an_ways : Option Addr} {sl_ways : Array (Option Value)} {oc_ways kV_ways dc_ways pm_ways cd_ways ct_ways : Value} (a_ways : PySem.W.nsIn K mainGlobals "ways" = some (some (.ref f_ways))) (l_ways : K.lookup f_ways = some ⟨oc_ways, od_ways, .func (PySem.W.fnOf "ways" "ways" (defArgs s_ways) (defBody s_ways) (defScope s_ways) .none kV_ways dc_ways pm_ways an_ways cd_ways ct_ways), sl_ways⟩) (c_ways : PySem.W.codeIn K cd_ways "ways" = true) (k_ways : PySem.W.keepIn K (.ref f_ways) = true)
    {f_ways_behind : Addr} {od_ways_behind an_ways_behind : Option Addr} {sl_ways_behind : Array (Option Value)} {oc_ways_behind kV_ways_behind dc_ways_behind pm_ways_behind cd_ways_behind ct_ways_behind : Value} (a_ways_behind : PySem.W.nsIn K mainGlobals "ways_behind" = some (some (.ref f_ways_behind))) (l_ways_behind : K.lookup f_ways_behind = some ⟨oc_ways_behind, od_ways_behind, .func (PySem.W.fnOf "ways_behind" "ways_behind" (defArgs s_ways_behind) (defBody s_ways_behind) (defScope s_ways_behind) .none kV_ways_behind dc_ways_behind pm_ways_behind an_ways_behind cd_ways_behind ct_ways_behind), sl_ways_behind⟩) (c_ways_behind : PySem.W.codeIn K cd_ways_behind "ways_behind" = true) (k_ways_behind : PySem.W.keepIn K (.ref f_ways_behind) = true)
    {f_row_at : Addr} {od_row_at an_row_at : Option Addr} {sl_row_at : Array (Option Value)} {oc_row_at kV_row_at dc_row_at pm_row_at cd_row_at ct_row_at : Value} (a_row_at : PySem.W.nsIn K mainGlobals "row_at" = some (some (.ref f_row_at))) (l_row_at : K.lookup f_row_at = some ⟨oc_row_at, od_row_at, .func (PySem.W.fnOf "row_at" "row_at" (defArgs s_row_at) (defBody s_row_at) (defScope s_row_at) .none kV_row_at dc_row_at pm_row_at an_row_at cd_row_at ct_row_at), sl_row_at⟩) (c_row_at : PySem.W.codeIn K cd_row_at "row_at" = true) (k_row_at : PySem.W.keepIn K (.ref f_row_at) = true)
    {f_row_by : Addr} {od_row_by an_row_by : Option Addr} {sl_row_by : Array (Option Value)} {oc_row_by kV_row_by dc_row_by pm_row_by cd_row_by ct_row_by : Value} (a_row_by : PySem.W.nsIn K mainGlobals "row_by" = some (some (.ref f_row_by))) (l_row_by : K.lookup f_row_by = some ⟨oc_row_by, od_row_by, .func (PySem.W.fnOf "row_by" "row_by" (defArgs s_row_by) (defBody s_row_by) (defScope s_row_by) .none kV_row_by dc_row_by pm_row_by an_row_by cd_row_by ct_row_by), sl_row_by⟩) (c_row_by : PySem.W.codeIn K cd_row_by "row_by" = true) (k_row_by : PySem.W.keepIn K (.ref f_row_by) = true)
    {f_number_of : Addr} {od_number_of an_number_of : Option Addr} {sl_number_of : Array (Option Value)} {oc_number_of kV_number_of dc_number_of pm_number_of cd_number_of ct_number_of : Value} (a_number_of : PySem.W.nsIn K mainGlobals "number_of" = some (some (.ref f_number_of))) (l_number_of : K.lookup f_number_of = some ⟨oc_number_of, od_number_of, .func (PySem.W.fnOf "number_of" "number_of" (defArgs s_number_of) (defBody s_number_of) (defScope s_number_of) .none kV_number_of dc_number_of pm_number_of an_number_of cd_number_of ct_number_of), sl_number_of⟩) (c_number_of : PySem.W.codeIn K cd_number_of "number_of" = true) (k_number_of : PySem.W.keepIn K (.ref f_number_of) = true)
    {f_next_one : Addr} {od_next_one an_next_one : Option Addr} {sl_next_one : Array (Option Value)} {oc_next_one kV_next_one dc_next_one pm_next_one cd_next_one ct_next_one : Value} (a_next_one : PySem.W.nsIn K mainGlobals "next_one" = some (some (.ref f_next_one))) (l_next_one : K.lookup f_next_one = some ⟨oc_next_one, od_next_one, .func (PySem.W.fnOf "next_one" "next_one" (defArgs s_next_one) (defBody s_next_one) (defScope s_next_one) .none kV_next_one dc_next_one pm_next_one an_next_one cd_next_one ct_next_one), sl_next_one⟩) (c_next_one : PySem.W.codeIn K cd_next_one "next_one" = true) (k_next_one : PySem.W.keepIn K (.ref f_next_one) = true)
    {f__law_number : Addr} {od__law_number an__law_number : Option Addr} {sl__law_number : Array (Option Value)} {oc__law_number kV__law_number dc__law_number pm__law_number cd__law_number ct__law_number : Value} (a__law_number : PySem.W.nsIn K mainGlobals "_law_number" = some (some (.ref f__law_number))) (l__law_number : K.lookup f__law_number = some ⟨oc__law_number, od__law_number, .func (PySem.W.fnOf "_law_number" "_law_number" (defArgs s__law_number) (defBody s__law_number) (defScope s__law_number) .none kV__law_number dc__law_number pm__law_number an__law_number cd__law_number ct__law_number), sl__law_number⟩) (c__law_number : PySem.W.codeIn K cd__law_number "_law_number" = true) (k__law_number : PySem.W.keepIn K (.ref f__law_number) = true)
    {f__law_drawn_wish : Addr} {od__law_drawn_wish an__law_drawn_wish : Option Addr} {sl__law_drawn_wish : Array (Option Value)} {oc__law_drawn_wish kV__law_drawn_wish dc__law_drawn_wish pm__law_drawn_wish cd__law_drawn_wish ct__law_drawn_wish : Value} (a__law_drawn_wish : PySem.W.nsIn K mainGlobals "_law_drawn_wish" = some (some (.ref f__law_drawn_wish))) (l__law_drawn_wish : K.lookup f__law_drawn_wish = some ⟨oc__law_drawn_wish, od__law_drawn_wish, .func (PySem.W.fnOf "_law_drawn_wish" "_law_drawn_wish" (defArgs s__law_drawn_wish) (defBody s__law_drawn_wish) (defScope s__law_drawn_wish) .none kV__law_drawn_wish dc__law_drawn_wish pm__law_drawn_wish an__law_drawn_wish cd__law_drawn_wish ct__law_drawn_wish), sl__law_drawn_wish⟩) (c__law_drawn_wish : PySem.W.codeIn K cd__law_drawn_wish "_law_drawn_wish" = true) (k__law_drawn_wish : PySem.W.keepIn K (.ref f__law_drawn_wish) = true)
    {f__law_highs : Addr} {od__law_highs an__law_highs : Option Addr} {sl__law_highs : Array (Option Value)} {oc__law_highs kV__law_highs dc__law_highs pm__law_highs cd__law_highs ct__law_highs : Value} (a__law_highs : PySem.W.nsIn K mainGlobals "_law_highs" = some (some (.ref f__law_highs))) (l__law_highs : K.lookup f__law_highs = some ⟨oc__law_highs, od__law_highs, .func (PySem.W.fnOf "_law_highs" "_law_highs" (defArgs s__law_highs) (defBody s__law_highs) (defScope s__law_highs) .none kV__law_highs dc__law_highs pm__law_highs an__law_highs cd__law_highs ct__law_highs), sl__law_highs⟩) (c__law_highs : PySem.W.codeIn K cd__law_highs "_law_highs" = true) (k__law_highs : PySem.W.keepIn K (.ref f__law_highs) = true)
    {f__law_lows : Addr} {od__law_lows an__law_lows : Option Addr} {sl__law_lows : Array (Option Value)} {oc__law_lows kV__law_lows dc__law_lows pm__law_lows cd__law_lows ct__law_lows : Value} (a__law_lows : PySem.W.nsIn K mainGlobals "_law_lows" = some (some (.ref f__law_lows))) (l__law_lows : K.lookup f__law_lows = some ⟨oc__law_lows, od__law_lows, .func (PySem.W.fnOf "_law_lows" "_law_lows" (defArgs s__law_lows) (defBody s__law_lows) (defScope s__law_lows) .none kV__law_lows dc__law_lows pm__law_lows an__law_lows cd__law_lows ct__law_lows), sl__law_lows⟩) (c__law_lows : PySem.W.codeIn K cd__law_lows "_law_lows" = true) (k__law_lows : PySem.W.keepIn K (.ref f__law_lows) = true)
    {f__law_kept : Addr} {od__law_kept an__law_kept : Option Addr} {sl__law_kept : Array (Option Value)} {oc__law_kept kV__law_kept dc__law_kept pm__law_kept cd__law_kept ct__law_kept : Value} (a__law_kept : PySem.W.nsIn K mainGlobals "_law_kept" = some (some (.ref f__law_kept))) (l__law_kept : K.lookup f__law_kept = some ⟨oc__law_kept, od__law_kept, .func (PySem.W.fnOf "_law_kept" "_law_kept" (defArgs s__law_kept) (defBody s__law_kept) (defScope s__law_kept) .none kV__law_kept dc__law_kept pm__law_kept an__law_kept cd__law_kept ct__law_kept), sl__law_kept⟩) (c__law_kept : PySem.W.codeIn K cd__law_kept "_law_kept" = true) (k__law_kept : PySem.W.keepIn K (.ref f__law_kept) = true)
    {f__law_all_rows : Addr} {od__law_all_rows an__law_all_rows : Option Addr} {sl__law_all_rows : Array (Option Value)} {oc__law_all_rows kV__law_all_rows dc__law_all_rows pm__law_all_rows cd__law_all_rows ct__law_all_rows : Value} (a__law_all_rows : PySem.W.nsIn K mainGlobals "_law_all_rows" = some (some (.ref f__law_all_rows))) (l__law_all_rows : K.lookup f__law_all_rows = some ⟨oc__law_all_rows, od__law_all_rows, .func (PySem.W.fnOf "_law_all_rows" "_law_all_rows" (defArgs s__law_all_rows) (defBody s__law_all_rows) (defScope s__law_all_rows) .none kV__law_all_rows dc__law_all_rows pm__law_all_rows an__law_all_rows cd__law_all_rows ct__law_all_rows), sl__law_all_rows⟩) (c__law_all_rows : PySem.W.codeIn K cd__law_all_rows "_law_all_rows" = true) (k__law_all_rows : PySem.W.keepIn K (.ref f__law_all_rows) = true)
    {f__law_one_right : Addr} {od__law_one_right an__law_one_right : Option Addr} {sl__law_one_right : Array (Option Value)} {oc__law_one_right kV__law_one_right dc__law_one_right pm__law_one_right cd__law_one_right ct__law_one_right : Value} (a__law_one_right : PySem.W.nsIn K mainGlobals "_law_one_right" = some (some (.ref f__law_one_right))) (l__law_one_right : K.lookup f__law_one_right = some ⟨oc__law_one_right, od__law_one_right, .func (PySem.W.fnOf "_law_one_right" "_law_one_right" (defArgs s__law_one_right) (defBody s__law_one_right) (defScope s__law_one_right) .none kV__law_one_right dc__law_one_right pm__law_one_right an__law_one_right cd__law_one_right ct__law_one_right), sl__law_one_right⟩) (c__law_one_right : PySem.W.codeIn K cd__law_one_right "_law_one_right" = true) (k__law_one_right : PySem.W.keepIn K (.ref f__law_one_right) = true)
    {f_law : Addr} {od_law an_law : Option Addr} {sl_law : Array (Option Value)} {oc_law kV_law dc_law pm_law cd_law ct_law : Value} (a_law : PySem.W.nsIn K mainGlobals "law" = some (some (.ref f_law))) (l_law : K.lookup f_law = some ⟨oc_law, od_law, .func (PySem.W.fnOf "law" "law" (defArgs s_law) (defBody s_law) (defScope s_law) .none kV_law dc_law pm_law an_law cd_law ct_law), sl_law⟩) (c_law : PySem.W.codeIn K cd_law "law" = true) (k_law : PySem.W.keepIn K (.ref f_law) = true) : ∃ fd : FuncData, (∀ (s : Shared) (u : Value), BindsTo s fd ⟨[u], []⟩ [("_law_script", u)]) ∧ ∀ base : Heap, K.In base → base.Ns mainGlobals mg → FnOk P w K mg base (L2.CX P w) 20 fa fd ["_law_script"] (spLaw K) := by
  have hL : Lk K mg := lk_mk X G z_enumerate z_len z_range z_max z_min z_sorted z_isinstance z_int z_bool z_list z_all z_zip z_tuple z_sum z_set z_abs g_GREATEST g_MOST xa_BadThings xe_BadThings xk_BadThings xs_BadThings xt_BadThings xa_BadRow xe_BadRow xk_BadRow xs_BadRow xt_BadRow xa_BadWish xe_BadWish xk_BadWish xs_BadWish xt_BadWish xa_TooMany xe_TooMany xk_TooMany xs_TooMany xt_TooMany xa_BadNumber xe_BadNumber xk_BadNumber xs_BadNumber xt_BadNumber xa_NotKept xe_NotKept xk_NotKept xs_NotKept xt_NotKept a_is_whole l_is_whole c_is_whole k_is_whole a_is_between l_is_between c_is_between k_is_between a_check_things l_check_things c_check_things k_check_things a_is_row l_is_row c_is_row k_is_row a_check_row l_check_row c_check_row k_check_row a_are_places l_are_places c_are_places k_are_places a_check_wish l_check_wish c_check_wish k_check_wish a_ranks_in l_ranks_in c_ranks_in k_ranks_in a_span l_span c_span k_span a_spans l_spans c_spans k_spans a_is_kept l_is_kept c_is_kept k_is_kept a_how_many l_how_many c_how_many k_how_many a_told_at l_told_at c_told_at k_told_at a_ways l_ways c_ways k_ways a_ways_behind l_ways_behind c_ways_behind k_ways_behind a_row_at l_row_at c_row_at k_row_at a_row_by l_row_by c_row_by k_row_by a_number_of l_number_of c_number_of k_number_of a_next_one l_next_one c_next_one k_next_one a__law_number l__law_number c__law_number k__law_number a__law_drawn_wish l__law_drawn_wish c__law_drawn_wish k__law_drawn_wish a__law_highs l__law_highs c__law_highs k__law_highs a__law_lows l__law_lows c__law_lows k__law_lows a__law_kept l__law_kept c__law_kept k__law_kept a__law_all_rows l__law_all_rows c__law_all_rows k__law_all_rows a__law_one_right l__law_one_right c__law_one_right k__law_one_right a_law l_law c_law k_law
  exact law_end hL.d_law hmg sc_law (fun _ _ _ _ _ _ s u => .of_eq rfl) (fun base => all_ok hL) law_true
end K05
open PySem PySem.W PyProof.Rows
set_option maxHeartbeats 0 in
theorem PySem.Challenge.cw_newhighs_k05_whole_numbered_holds : PySem.Challenge.rw_newhighs_k05_whole_numbered.Holds := by
  w_on; o_law; k_head; (case hw => w_witness2)
  k_fill
  refine L2.walk_of (l := PySem.Challenge.rw_newhighs_k05_whole_numbered) (n := 63) (k := 20) (x := "_law_script") (CX := fun w => L2.CX PySem.Challenge.rw_newhighs_k05_whole_numbered.prog w) (sp := fun w => DL.spLaw _) rfl (by decide) rfl ⟨rfl, by decide, by decide⟩ (fun w h Y => PySem.W.kIn_of Y) ?F (fun _ _ a ns hl _ hS => ⟨a, ns, rfl, hS, hl, fun _ => rfl⟩) (fun _ _ _ _ _ h => by obtain ⟨_, _, _, _, _, _, _, _, _, _, _, _, z⟩ := h; exact z)
  case F =>
    intro w mg fa h KX G hmg
    refine' K05.fin_mk KX G hmg ?z_enumerate ?z_len ?z_range ?z_max ?z_min ?z_sorted ?z_isinstance ?z_int ?z_bool ?z_list ?z_all ?z_zip ?z_tuple ?z_sum ?z_set ?z_abs ?g_GREATEST ?g_MOST ?xa_BadThings ?xe_BadThings ?xk_BadThings ?xs_BadThings ?xt_BadThings ?xa_BadRow ?xe_BadRow ?xk_BadRow ?xs_BadRow ?xt_BadRow ?xa_BadWish ?xe_BadWish ?xk_BadWish ?xs_BadWish ?xt_BadWish ?xa_TooMany ?xe_TooMany ?xk_TooMany ?xs_TooMany ?xt_TooMany ?xa_BadNumber ?xe_BadNumber ?xk_BadNumber ?xs_BadNumber ?xt_BadNumber ?xa_NotKept ?xe_NotKept ?xk_NotKept ?xs_NotKept ?xt_NotKept ?a_is_whole ?l_is_whole ?c_is_whole ?k_is_whole ?a_is_between ?l_is_between ?c_is_between ?k_is_between ?a_check_things ?l_check_things ?c_check_things ?k_check_things ?a_is_row ?l_is_row ?c_is_row ?k_is_row ?a_check_row ?l_check_row ?c_check_row ?k_check_row ?a_are_places ?l_are_places ?c_are_places ?k_are_places ?a_check_wish ?l_check_wish ?c_check_wish ?k_check_wish ?a_ranks_in ?l_ranks_in ?c_ranks_in ?k_ranks_in ?a_span ?l_span ?c_span ?k_span ?a_spans ?l_spans ?c_spans ?k_spans ?a_is_kept ?l_is_kept ?c_is_kept ?k_is_kept ?a_how_many ?l_how_many ?c_how_many ?k_how_many ?a_told_at ?l_told_at ?c_told_at ?k_told_at ?a_ways ?l_ways ?c_ways ?k_ways ?a_ways_behind ?l_ways_behind ?c_ways_behind ?k_ways_behind ?a_row_at ?l_row_at ?c_row_at ?k_row_at ?a_row_by ?l_row_by ?c_row_by ?k_row_by ?a_number_of ?l_number_of ?c_number_of ?k_number_of ?a_next_one ?l_next_one ?c_next_one ?k_next_one ?a__law_number ?l__law_number ?c__law_number ?k__law_number ?a__law_drawn_wish ?l__law_drawn_wish ?c__law_drawn_wish ?k__law_drawn_wish ?a__law_highs ?l__law_highs ?c__law_highs ?k__law_highs ?a__law_lows ?l__law_lows ?c__law_lows ?k__law_lows ?a__law_kept ?l__law_kept ?c__law_kept ?k__law_kept ?a__law_all_rows ?l__law_all_rows ?c__law_all_rows ?k__law_all_rows ?a__law_one_right ?l__law_one_right ?c__law_one_right ?k__law_one_right ?a_law ?l_law ?c_law ?k_law
    (case z_enumerate => k_is)
    (case z_len => k_is)
    (case z_range => k_is)
    (case z_max => k_is)
    (case z_min => k_is)
    (case z_sorted => k_is)
    (case z_isinstance => k_is)
    (case z_int => k_is)
    (case z_bool => k_is)
    (case z_list => k_is)
    (case z_all => k_is)
    (case z_zip => k_is)
    (case z_tuple => k_is)
    (case z_sum => k_is)
    (case z_set => k_is)
    (case z_abs => k_is)
    (case g_GREATEST => k_is)
    (case g_MOST => k_is)
    (case xa_BadThings => k_is)
    (case xe_BadThings => k_exc)
    (case xk_BadThings => k_is)
    (case xs_BadThings => k_is)
    (case xt_BadThings => k_is)
    (case xa_BadRow => k_is)
    (case xe_BadRow => k_exc)
    (case xk_BadRow => k_is)
    (case xs_BadRow => k_is)
    (case xt_BadRow => k_is)
    (case xa_BadWish => k_is)
    (case xe_BadWish => k_exc)
    (case xk_BadWish => k_is)
    (case xs_BadWish => k_is)
    (case xt_BadWish => k_is)
    (case xa_TooMany => k_is)
    (case xe_TooMany => k_exc)
    (case xk_TooMany => k_is)
    (case xs_TooMany => k_is)
    (case xt_TooMany => k_is)
    (case xa_BadNumber => k_is)
    (case xe_BadNumber => k_exc)
    (case xk_BadNumber => k_is)
    (case xs_BadNumber => k_is)
    (case xt_BadNumber => k_is)
    (case xa_NotKept => k_is)
    (case xe_NotKept => k_exc)
    (case xk_NotKept => k_is)
    (case xs_NotKept => k_is)
    (case xt_NotKept => k_is)
    (case a_is_whole => k_is)
    (case l_is_whole => k_is)
    (case c_is_whole => k_is)
    (case k_is_whole => k_is)
    (case a_is_between => k_is)
    (case l_is_between => k_is)
    (case c_is_between => k_is)
    (case k_is_between => k_is)
    (case a_check_things => k_is)
    (case l_check_things => k_is)
    (case c_check_things => k_is)
    (case k_check_things => k_is)
    (case a_is_row => k_is)
    (case l_is_row => k_is)
    (case c_is_row => k_is)
    (case k_is_row => k_is)
    (case a_check_row => k_is)
    (case l_check_row => k_is)
    (case c_check_row => k_is)
    (case k_check_row => k_is)
    (case a_are_places => k_is)
    (case l_are_places => k_is)
    (case c_are_places => k_is)
    (case k_are_places => k_is)
    (case a_check_wish => k_is)
    (case l_check_wish => k_is)
    (case c_check_wish => k_is)
    (case k_check_wish => k_is)
    (case a_ranks_in => k_is)
    (case l_ranks_in => k_is)
    (case c_ranks_in => k_is)
    (case k_ranks_in => k_is)
    (case a_span => k_is)
    (case l_span => k_is)
    (case c_span => k_is)
    (case k_span => k_is)
    (case a_spans => k_is)
    (case l_spans => k_is)
    (case c_spans => k_is)
    (case k_spans => k_is)
    (case a_is_kept => k_is)
    (case l_is_kept => k_is)
    (case c_is_kept => k_is)
    (case k_is_kept => k_is)
    (case a_how_many => k_is)
    (case l_how_many => k_is)
    (case c_how_many => k_is)
    (case k_how_many => k_is)
    (case a_told_at => k_is)
    (case l_told_at => k_is)
    (case c_told_at => k_is)
    (case k_told_at => k_is)
    (case a_ways => k_is)
    (case l_ways => k_is)
    (case c_ways => k_is)
    (case k_ways => k_is)
    (case a_ways_behind => k_is)
    (case l_ways_behind => k_is)
    (case c_ways_behind => k_is)
    (case k_ways_behind => k_is)
    (case a_row_at => k_is)
    (case l_row_at => k_is)
    (case c_row_at => k_is)
    (case k_row_at => k_is)
    (case a_row_by => k_is)
    (case l_row_by => k_is)
    (case c_row_by => k_is)
    (case k_row_by => k_is)
    (case a_number_of => k_is)
    (case l_number_of => k_is)
    (case c_number_of => k_is)
    (case k_number_of => k_is)
    (case a_next_one => k_is)
    (case l_next_one => k_is)
    (case c_next_one => k_is)
    (case k_next_one => k_is)
    (case a__law_number => k_is)
    (case l__law_number => k_is)
    (case c__law_number => k_is)
    (case k__law_number => k_is)
    (case a__law_drawn_wish => k_is)
    (case l__law_drawn_wish => k_is)
    (case c__law_drawn_wish => k_is)
    (case k__law_drawn_wish => k_is)
    (case a__law_highs => k_is)
    (case l__law_highs => k_is)
    (case c__law_highs => k_is)
    (case k__law_highs => k_is)
    (case a__law_lows => k_is)
    (case l__law_lows => k_is)
    (case c__law_lows => k_is)
    (case k__law_lows => k_is)
    (case a__law_kept => k_is)
    (case l__law_kept => k_is)
    (case c__law_kept => k_is)
    (case k__law_kept => k_is)
    (case a__law_all_rows => k_is)
    (case l__law_all_rows => k_is)
    (case c__law_all_rows => k_is)
    (case k__law_all_rows => k_is)
    (case a__law_one_right => k_is)
    (case l__law_one_right => k_is)
    (case c__law_one_right => k_is)
    (case k__law_one_right => k_is)
    (case a_law => k_is)
    (case l_law => k_is)
    (case c_law => k_is)
    (case k_law => k_is)
