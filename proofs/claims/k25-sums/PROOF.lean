import PyProof.Rows.All
import Wide.All
import OpenK.AllK
import Wide.FinOn
import HandS.ForMost
import HandS.Exc
import HandS.TryOnly
import HandS.WordsExc
import HandS.IsInst
import HandS.Flow
import HandS.Wide
import HandS.CallSlots
import HandS.Zip
import HandS.ExcInit
import HandS.ClsMeth
import PyProof.ReprRoads
import PyProof.StrLawsRepr
import HandS.WordsDict
import HandS.RaiseMore
import HandS.Text
import HandS.Dict
import HandS.TupLe
import HandS.Words
import HandS.Ends
import HandS.EndBits
import PySem.Challenge.RW_steppedtimes_k25_sums
set_option Elab.async false
set_option linter.all false
set_option maxRecDepth 100000
/-! TL1: trees of values over the abstract heap. What never changes is a tree; what changes stands in M. -/
namespace TL
open PySem PySem.Spec PyProof.Rows L2

inductive NK where
  | tup | lst
  | dic (ks : List Key)
  | ins (C : Nat) (ns : List Str)
  | exc (C : Nat) (ns : List Str)
  deriving DecidableEq

inductive T where
  | non | bl (b : Bool) | int (i : Int) | str (x : Str) | ty (n : String)
  | obj (a : Addr)
  | node (k : NK) (xs : List T)

abbrev Mp := Addr → Option (NK × List T)
def updM (M : Mp) (a : Addr) (o : NK × List T) : Mp := fun b => if b = a then some o else M b
theorem updM_same {M : Mp} {a : Addr} {o : NK × List T} : updM M a o a = some o := by unfold updM; rw [if_pos rfl]
theorem updM_ne {M : Mp} {a b : Addr} {o : NK × List T} (h : b ≠ a) : updM M a o b = M b := by unfold updM; rw [if_neg h]
theorem updM_upd {M : Mp} {a : Addr} {o u : NK × List T} : updM (updM M a o) a u = updM M a u := by
  funext b; unfold updM; split <;> rfl

/-- what is not in M stays -/
def Ext (M : Mp) (H : Hp) (M1 : Mp) (H1 : Hp) : Prop := ∀ a o, M a = none → H a = some o → H1 a = some o ∧ M1 a = none
theorem Ext.refl {M : Mp} {H : Hp} : Ext M H M H := fun _ _ m h => ⟨h, m⟩
theorem Ext.trans {M M1 M2 : Mp} {H H1 H2 : Hp} (a : Ext M H M1 H1) (b : Ext M1 H1 M2 H2) : Ext M H M2 H2 := fun c o m h =>
  let ⟨h1, m1⟩ := a c o m h
  b c o m1 h1

/-- the static context: the written part, the classes' addresses -/
structure Tx where
  K : PySem.W.Frag
  cd : Nat → Addr
  /-- hidden: no tree stands there -/
  F : Addr → Prop
/-- what is wished of an exception; what else stands (and stays) -/
structure Wz where
  W : WX
  Z : Hp → Mp → Prop
  Zs : ∀ {M H M1 H1}, Ext M H M1 H1 → Z H M → Z H1 M1
def Wz.of (W : WX) : Wz := ⟨W, fun _ _ => True, fun _ _ => trivial⟩

section
variable (x : Tx)
/-- a tree's node by what is tracked -/
def HoldsH (H : Hp) : NK → Addr → List V → Prop
  | .tup, a, vs => H a = some (.tup vs)
  | .lst, a, vs => Rd H a (.lst vs)
  | .dic ks, a, vs => ks.length = vs.length ∧ H a = some (.dK (ks.zip vs))
  | .ins C ns, a, vs => ns.length = vs.length ∧ ∃ dx, H a = some (.ins (x.cd C) dx (ns.zip vs))
  | _, _, _ => False
/-- .. by what is written -/
def HoldsK : NK → Addr → List V → Prop
  | .tup, a, xs => ∃ (o : Obj) (its : Array Value) (n : Nat), x.K.lookup a = some o ∧ o.cls = .type "tuple" ∧ o.data = .seq its n ∧ its.size ≤ sizeLine ∧ Vals xs its.toList
  | .lst, a, xs => ∃ (o : Obj) (its : Array Value) (n : Nat), x.K.lookup a = some o ∧ o.cls = .type "list" ∧ o.dict = none ∧ o.data = .seq its n ∧ its.size ≤ sizeLine ∧ Vals xs its.toList
  | _, _, _ => False
def Holds (H : Hp) (M : Mp) (k : NK) (a : Addr) (vs : List V) : Prop := (M a = none ∧ ¬ x.F a ∧ HoldsH x H k a vs) ∨ HoldsK x k a vs
/-- a changing thing -/
def HoldsM (H : Hp) : NK → Addr → List V → Prop
  | .lst, a, vs => H a = some (.lst vs)
  | .dic ks, a, vs => ks.length = vs.length ∧ H a = some (.dK (ks.zip vs))
  | .ins C ns, a, vs => ns.length = vs.length ∧ ∃ dx, H a = some (.ins (x.cd C) dx (ns.zip vs))
  | _, _, _ => False
mutual
def Rep (H : Hp) (M : Mp) : T → V → Prop
  | .non, v => v = .non
  | .bl b, v => v = .bl b
  | .int i, v => v = .int i
  | .str y, v => v = .str y ∧ PyData.strOk y = true
  | .ty n, v => v = .ty n
  | .obj a, v => v = .ref a
  | .node k ts, v => ∃ a vs, v = .ref a ∧ Holds x H M k a vs ∧ RepL H M ts vs
def RepL (H : Hp) (M : Mp) : List T → List V → Prop
  | [], vs => vs = []
  | t :: ts, vs => ∃ v ws, vs = v :: ws ∧ Rep H M t v ∧ RepL H M ts ws
end
def RelM (H : Hp) (M : Mp) : Prop := (∀ a k ts, M a = some (k, ts) → ∃ vs, HoldsM x H k a vs ∧ RepL x H M ts vs) ∧ ∀ a, x.F a → (∃ o, H a = some o) ∧ M a = none
abbrev TSt := List (Option T)
def RelS (W : Wz) (H : Hp) (M : Mp) (σ : L2.St) (τ : TSt) : Prop := τ.length = σ.length ∧ (∀ (i : Nat) t, τ[i]? = some (some t) → ∃ v, σ[i]? = some (some v) ∧ Rep x H M t v) ∧ W.Z H M
/-- an exception by its class and its dict -/
def RepX (H : Hp) (M : Mp) (cls : Value) (d : Option Addr) : T → Prop
  | .node (.exc C ns) ts => cls = .ref (x.cd C) ∧ ∃ dd vs, d = some dd ∧ M dd = none ∧ ns.length = vs.length ∧ H dd = some (.xd (ns.zip vs)) ∧ RepL x H M ts vs
  | _ => False
end
section
variable {x : Tx} {H H1 : Hp} {M M1 : Mp}
theorem Holds.ext {k : NK} {a : Addr} {vs : List V} (e : Ext M H M1 H1) (h : Holds x H M k a vs) : Holds x H1 M1 k a vs := by
  rcases h with ⟨m, nf, h⟩ | h
  · refine .inl ?_
    cases k with
    | tup => exact ⟨(e a _ m h).2, nf, (e a _ m h).1⟩
    | lst =>
      rcases h with h | ⟨o, h⟩
      · exact ⟨(e a _ m h).2, nf, .inl (e a _ m h).1⟩
      · exact ⟨(e a _ m h).2, nf, .inr ⟨o, (e a _ m h).1⟩⟩
    | dic ks => exact ⟨(e a _ m h.2).2, nf, h.1, (e a _ m h.2).1⟩
    | ins C ns =>
      obtain ⟨hl, dx, h⟩ := h
      exact ⟨(e a _ m h).2, nf, hl, dx, (e a _ m h).1⟩
    | exc C ns => exact h.elim
  · exact .inr h
mutual
theorem Rep.ext (e : Ext M H M1 H1) : ∀ {t : T} {v : V}, Rep x H M t v → Rep x H1 M1 t v
  | .non, _, h => h
  | .bl _, _, h => h
  | .int _, _, h => h
  | .str _, _, h => h
  | .ty _, _, h => h
  | .obj _, _, h => h
  | .node k ts, _, h => by
    unfold Rep at h ⊢
    obtain ⟨a, vs, rfl, hh, hl⟩ := h
    exact ⟨a, vs, rfl, hh.ext e, RepL.ext e hl⟩
theorem RepL.ext (e : Ext M H M1 H1) : ∀ {ts : List T} {vs : List V}, RepL x H M ts vs → RepL x H1 M1 ts vs
  | [], _, h => h
  | t :: ts, _, h => by
    unfold RepL at h ⊢
    obtain ⟨v, ws, rfl, h1, h2⟩ := h
    exact ⟨v, ws, rfl, h1.ext e, RepL.ext e h2⟩
end
theorem RelS.ext {W : Wz} {σ : L2.St} {τ : TSt} (e : Ext M H M1 H1) (r : RelS x W H M σ τ) : RelS x W H1 M1 σ τ :=
  ⟨r.1, fun i t q => let ⟨v, a, b⟩ := r.2.1 i t q; ⟨v, a, b.ext e⟩, W.Zs e r.2.2⟩
theorem RepL.nil_iff {vs : List V} : RepL x H M [] vs ↔ vs = [] := by unfold RepL; exact Iff.rfl
theorem RepL.cons {t : T} {ts : List T} {v : V} {vs : List V} (a : Rep x H M t v) (b : RepL x H M ts vs) : RepL x H M (t :: ts) (v :: vs) := by
  unfold RepL; exact ⟨v, vs, rfl, a, b⟩
theorem RepL.nil : RepL x H M [] [] := by unfold RepL; rfl
theorem RepL.length : ∀ {ts : List T} {vs : List V}, RepL x H M ts vs → ts.length = vs.length
  | [], _, h => by unfold RepL at h; subst h; rfl
  | t :: ts, _, h => by
    unfold RepL at h
    obtain ⟨v, ws, rfl, _, h2⟩ := h
    simp [RepL.length h2]
theorem RepL.get : ∀ {ts : List T} {vs : List V} {i : Nat} {t : T}, RepL x H M ts vs → ts[i]? = some t → ∃ v, vs[i]? = some v ∧ Rep x H M t v
  | [], _, i, t, _, e => by simp at e
  | u :: ts, _, i, t, h, e => by
    unfold RepL at h
    obtain ⟨v, ws, rfl, h1, h2⟩ := h
    cases i with
    | zero => simp at e; subst e; exact ⟨v, rfl, h1⟩
    | succ i => simpa using RepL.get (i := i) h2 (by simpa using e)
theorem RepL.get' : ∀ {ts : List T} {vs : List V} {i : Nat} {v : V}, RepL x H M ts vs → vs[i]? = some v → ∃ t, ts[i]? = some t ∧ Rep x H M t v
  | [], _, i, v, h, e => by unfold RepL at h; subst h; simp at e
  | u :: ts, _, i, v, h, e => by
    unfold RepL at h
    obtain ⟨v', ws, rfl, h1, h2⟩ := h
    cases i with
    | zero => simp at e; subst e; exact ⟨u, rfl, h1⟩
    | succ i => simpa using RepL.get' (i := i) h2 (by simpa using e)
theorem RepL.append : ∀ {ts us : List T} {vs ws : List V}, RepL x H M ts vs → RepL x H M us ws → RepL x H M (ts ++ us) (vs ++ ws)
  | [], _, _, _, h, g => by unfold RepL at h; subst h; exact g
  | t :: ts, us, _, ws, h, g => by
    unfold RepL at h
    obtain ⟨v, vs, rfl, h1, h2⟩ := h
    exact RepL.cons h1 (RepL.append h2 g)
theorem RepL.snoc {ts : List T} {vs : List V} {t : T} {v : V} (a : RepL x H M ts vs) (b : Rep x H M t v) : RepL x H M (ts ++ [t]) (vs ++ [v]) := a.append (RepL.cons b RepL.nil)
theorem RepL.take : ∀ {ts : List T} {vs : List V} (n : Nat), RepL x H M ts vs → RepL x H M (ts.take n) (vs.take n)
  | _, _, 0, _ => by simp; exact RepL.nil
  | [], _, n + 1, h => by unfold RepL at h; subst h; simp; exact RepL.nil
  | t :: ts, _, n + 1, h => by
    unfold RepL at h
    obtain ⟨v, ws, rfl, h1, h2⟩ := h
    simpa using RepL.cons h1 (RepL.take n h2)
theorem RepL.drop : ∀ {ts : List T} {vs : List V} (n : Nat), RepL x H M ts vs → RepL x H M (ts.drop n) (vs.drop n)
  | _, _, 0, h => by simpa using h
  | [], _, n + 1, h => by unfold RepL at h; subst h; simp; exact RepL.nil
  | t :: ts, _, n + 1, h => by
    unfold RepL at h
    obtain ⟨v, ws, rfl, h1, h2⟩ := h
    simpa using RepL.drop n h2
theorem RepL.set : ∀ {ts : List T} {vs : List V} {t : T} {v : V} (i : Nat), RepL x H M ts vs → Rep x H M t v → RepL x H M (ts.set i t) (vs.set i v)
  | [], _, _, _, i, h, _ => by unfold RepL at h; subst h; simp; exact RepL.nil
  | u :: ts, _, t, v, 0, h, g => by
    unfold RepL at h
    obtain ⟨v', ws, rfl, h1, h2⟩ := h
    simpa using RepL.cons g h2
  | u :: ts, _, t, v, i + 1, h, g => by
    unfold RepL at h
    obtain ⟨v', ws, rfl, h1, h2⟩ := h
    simpa using RepL.cons h1 (RepL.set i h2 g)
theorem RelS.set {W : Wz} {σ : L2.St} {τ : TSt} {t : T} {v : V} (r : RelS x W H M σ τ) (q : Rep x H M t v) (i : Nat) : RelS x W H M (σ.set i (some v)) (τ.set i (some t)) := by
  refine ⟨by simpa using r.1, fun j u e => ?_, r.2.2⟩
  by_cases hj : i = j
  · subst hj
    by_cases hi : i < τ.length
    · rw [List.getElem?_set_self hi] at e
      cases e
      exact ⟨v, by rw [List.getElem?_set_self (by rw [← r.1]; exact hi)], q⟩
    · rw [List.getElem?_eq_none (by simpa using Nat.le_of_not_lt hi)] at e
      cases e
  · rw [List.getElem?_set_ne hj] at e
    obtain ⟨w, e1, e2⟩ := r.2.1 j u e
    exact ⟨w, by rw [List.getElem?_set_ne hj]; exact e1, e2⟩
theorem RelS.unset {W : Wz} {σ : L2.St} {τ : TSt} (r : RelS x W H M σ τ) (i : Nat) : RelS x W H M (σ.set i none) (τ.set i none) := by
  refine ⟨by simpa using r.1, fun j u e => ?_, r.2.2⟩
  by_cases hj : i = j
  · subst hj
    by_cases hi : i < τ.length
    · rw [List.getElem?_set_self hi] at e
      cases e
    · rw [List.getElem?_eq_none (by simpa using Nat.le_of_not_lt hi)] at e
      cases e
  · rw [List.getElem?_set_ne hj] at e
    obtain ⟨w, e1, e2⟩ := r.2.1 j u e
    exact ⟨w, by rw [List.getElem?_set_ne hj]; exact e1, e2⟩
theorem HoldsM.some {k : NK} {a : Addr} {vs : List V} (h : HoldsM x H k a vs) : ∃ o, H a = some o := by
  cases k with
  | lst => exact ⟨_, h⟩
  | dic ks => exact ⟨_, h.2⟩
  | ins C ns => obtain ⟨_, dx, h⟩ := h; exact ⟨_, h⟩
  | tup => exact h.elim
  | exc C ns => exact h.elim
theorem RelM.free (r : RelM x H M) {p : Addr} (h : H p = none) : M p = none := by
  cases e : M p with
  | none => rfl
  | some o =>
    obtain ⟨k, ts⟩ := o
    obtain ⟨vs, hm, _⟩ := r.1 p k ts e
    obtain ⟨o, ho⟩ := hm.some
    rw [h] at ho; cases ho
theorem RelM.nf (r : RelM x H M) {p : Addr} (h : H p = none) : ¬ x.F p := fun f => by
  obtain ⟨⟨o, e⟩, _⟩ := r.2 p f
  rw [h] at e; cases e
/-- a new thing that is tracked, not in M -/
theorem Ext.new {p : Addr} {o : HO} (h : H p = none) : Ext M H M (upd H p o) := fun a u m e => ⟨by rw [upd_ne (ne_of_none e h)]; exact e, m⟩
theorem SqL.new {K : PySem.W.Frag} {a p : Addr} {o : HO} {vs : List V} (hp : H p = none) (h : SqL K H a vs) : SqL K (upd H p o) a vs := by
  rcases h with (h | ⟨u, h⟩) | h
  · exact .inl (.inl (by rw [upd_ne (ne_of_none h hp)]; exact h))
  · exact .inl (.inr ⟨u, by rw [upd_ne (ne_of_none h hp)]; exact h⟩)
  · exact .inr h
theorem SqL.other {K : PySem.W.Frag} {a p : Addr} {o : HO} {vs : List V} (hne : a ≠ p) (h : SqL K H a vs) : SqL K (upd H p o) a vs := by
  rcases h with (h | ⟨u, h⟩) | h
  · exact .inl (.inl (by rw [upd_ne hne]; exact h))
  · exact .inl (.inr ⟨u, by rw [upd_ne hne]; exact h⟩)
  · exact .inr h
theorem HoldsM.new {k : NK} {a p : Addr} {o : HO} {vs : List V} (hp : H p = none) (h : HoldsM x H k a vs) : HoldsM x (upd H p o) k a vs := by
  cases k with
  | lst => show upd H p o a = _; rw [upd_ne (ne_of_none h hp)]; exact h
  | dic ks => exact ⟨h.1, by rw [upd_ne (ne_of_none h.2 hp)]; exact h.2⟩
  | ins C ns => obtain ⟨hl, dx, h⟩ := h; exact ⟨hl, dx, by rw [upd_ne (ne_of_none h hp)]; exact h⟩
  | tup => exact h.elim
  | exc C ns => exact h.elim
theorem RelM.new {p : Addr} {o : HO} (r : RelM x H M) (hp : H p = none) : RelM x (upd H p o) M :=
  ⟨fun a k ts e => let ⟨vs, h, l⟩ := r.1 a k ts e; ⟨vs, h.new hp, l.ext (Ext.new hp)⟩, fun a f => let ⟨⟨o', e⟩, m⟩ := r.2 a f; ⟨⟨o', (Ext.new (o := o) hp a o' m e).1⟩, m⟩⟩
/-- a new thing that may change -/
theorem Ext.newM {p : Addr} {o : HO} {z : NK × List T} (h : H p = none) : Ext M H (updM M p z) (upd H p o) := fun a u m e =>
  ⟨by rw [upd_ne (ne_of_none e h)]; exact e, by rw [updM_ne (ne_of_none e h)]; exact m⟩
theorem RelM.newM {p : Addr} {o : HO} {k : NK} {ts : List T} {vs : List V} (r : RelM x H M) (hp : H p = none) (hk : HoldsM x (upd H p o) k p vs) (hl : RepL x H M ts vs) : RelM x (upd H p o) (updM M p (k, ts)) := by
  refine ⟨fun a k' ts' e => ?_, fun a f => ?_⟩
  · by_cases ha : a = p
    · subst ha
      rw [updM_same] at e; cases e
      exact ⟨vs, hk, hl.ext (Ext.newM hp)⟩
    · rw [updM_ne ha] at e
      obtain ⟨ws, h, l⟩ := r.1 a k' ts' e
      exact ⟨ws, h.new hp, l.ext (Ext.newM hp)⟩
  · obtain ⟨⟨o', e⟩, m⟩ := r.2 a f
    exact ⟨⟨o', (Ext.newM (o := o) (z := (k, ts)) hp a o' m e).1⟩, (Ext.newM (o := o) (z := (k, ts)) hp a o' m e).2⟩
/-- a changing thing is changed -/
theorem Ext.write {p : Addr} {o : HO} {z z' : NK × List T} (h : M p = some z) : Ext M H (updM M p z') (upd H p o) := fun a u m e => by
  have hne : a ≠ p := fun q => by subst q; rw [h] at m; cases m
  exact ⟨by rw [upd_ne hne]; exact e, by rw [updM_ne hne]; exact m⟩
theorem HoldsM.other {k : NK} {a p : Addr} {o : HO} {vs : List V} (hne : a ≠ p) (h : HoldsM x H k a vs) : HoldsM x (upd H p o) k a vs := by
  cases k with
  | lst => show upd H p o a = _; rw [upd_ne hne]; exact h
  | dic ks => exact ⟨h.1, by rw [upd_ne hne]; exact h.2⟩
  | ins C ns => obtain ⟨hl, dx, h⟩ := h; exact ⟨hl, dx, by rw [upd_ne hne]; exact h⟩
  | tup => exact h.elim
  | exc C ns => exact h.elim
theorem RelM.write {p : Addr} {o : HO} {z : NK × List T} {k : NK} {ts : List T} {vs : List V} (r : RelM x H M) (hz : M p = some z) (hk : HoldsM x (upd H p o) k p vs) (hl : RepL x H M ts vs) : RelM x (upd H p o) (updM M p (k, ts)) := by
  refine ⟨fun a k' ts' e => ?_, fun a f => ?_⟩
  · by_cases ha : a = p
    · subst ha
      rw [updM_same] at e; cases e
      exact ⟨vs, hk, hl.ext (Ext.write hz)⟩
    · rw [updM_ne ha] at e
      obtain ⟨ws, h, l⟩ := r.1 a k' ts' e
      exact ⟨ws, h.other ha, l.ext (Ext.write hz)⟩
  · obtain ⟨⟨o', e⟩, m⟩ := r.2 a f
    exact ⟨⟨o', (Ext.write (o := o) (z' := (k, ts)) hz a o' m e).1⟩, (Ext.write (o := o) (z' := (k, ts)) hz a o' m e).2⟩
end
/-! ### readings -/
abbrev TK := T → Mp → Prop
abbrev TE1 := TSt → Mp → TK → TK → Prop
abbrev TT1 := TSt → Mp → (Bool → Mp → Prop) → TK → Prop
abbrev TA1 := TSt → Mp → (List T → Mp → Prop) → TK → Prop
structure TEnds where
  nx : TSt → Mp → Prop
  rt : TK
  bk : TSt → Mp → Prop
  ct : TSt → Mp → Prop
  ex : T → TSt → Mp → Prop
abbrev TS1 := TEnds → TSt → Mp → Prop
section
variable (x : Tx) (W : Wz)
/-- an exception's end -/
def EC (σ : L2.St) (M : Mp) (H : Hp) (E : TK) : Prop := ∀ t M1 cls d H1, Ext M H M1 H1 → RelM x H1 M1 → RepX x H1 M1 cls d t → E t M1 → W.W cls d σ H1
/-- a value's end -/
def QC (M : Mp) (H : Hp) (Q' : TK) (Q : VK) : Prop := ∀ t M1 v H1, Ext M H M1 H1 → RelM x H1 M1 → Rep x H1 M1 t v → Q' t M1 → Q v H1
def liftE (t : TE1) : TE := fun σ H Q => ∃ τ M Q' E', RelS x W H M σ τ ∧ RelM x H M ∧ t τ M Q' E' ∧ QC x M H Q' Q ∧ EC x W σ M H E'
def liftT (t : TT1) : TT := fun σ H Q => ∃ τ M Q' E', RelS x W H M σ τ ∧ RelM x H M ∧ t τ M Q' E' ∧ (∀ b M1 H1, Ext M H M1 H1 → RelM x H1 M1 → Q' b M1 → Q b H1) ∧ EC x W σ M H E'
def liftA (t : TA1) : TA := fun σ H Q => ∃ τ M Q' E', RelS x W H M σ τ ∧ RelM x H M ∧ t τ M Q' E' ∧ (∀ ts M1 vs H1, Ext M H M1 H1 → RelM x H1 M1 → RepL x H1 M1 ts vs → Q' ts M1 → Q vs H1) ∧ EC x W σ M H E'
structure SC (M : Mp) (H : Hp) (D' : TEnds) (D : Ends) : Prop where
  nx : ∀ τ M1 σ H1, Ext M H M1 H1 → RelS x W H1 M1 σ τ → RelM x H1 M1 → D'.nx τ M1 → D.nx σ H1
  rt : QC x M H D'.rt D.rt
  bk : ∀ τ M1 σ H1, Ext M H M1 H1 → RelS x W H1 M1 σ τ → RelM x H1 M1 → D'.bk τ M1 → D.bk σ H1
  ct : ∀ τ M1 σ H1, Ext M H M1 H1 → RelS x W H1 M1 σ τ → RelM x H1 M1 → D'.ct τ M1 → D.ct σ H1
  ex : ∀ t τ M1 cls d σ H1, Ext M H M1 H1 → RelS x W H1 M1 σ τ → RelM x H1 M1 → RepX x H1 M1 cls d t → D'.ex t τ M1 → W.W cls d σ H1
def liftS (t : TS1) : TS := fun D σ H => ∃ τ M D', RelS x W H M σ τ ∧ RelM x H M ∧ t D' τ M ∧ SC x W M H D' D
end
section
variable {x : Tx} {W : Wz} {σ : L2.St} {τ : TSt} {H H1 : Hp} {M M1 : Mp}
theorem EC.ext {E : TK} (h : EC x W σ M H E) (e : Ext M H M1 H1) : EC x W σ M1 H1 E := fun t M2 cls d H2 e2 => h t M2 cls d H2 (e.trans e2)
theorem QC.ext {Q' : TK} {Q : VK} (h : QC x M H Q' Q) (e : Ext M H M1 H1) : QC x M1 H1 Q' Q := fun t M2 v H2 e2 => h t M2 v H2 (e.trans e2)
theorem SC.ext {D' : TEnds} {D : Ends} (h : SC x W M H D' D) (e : Ext M H M1 H1) : SC x W M1 H1 D' D :=
  ⟨fun τ M2 σ H2 e2 => h.nx τ M2 σ H2 (e.trans e2), h.rt.ext e, fun τ M2 σ H2 e2 => h.bk τ M2 σ H2 (e.trans e2), fun τ M2 σ H2 e2 => h.ct τ M2 σ H2 (e.trans e2), fun t τ M2 c d σ H2 e2 => h.ex t τ M2 c d σ H2 (e.trans e2)⟩
/-- .. from a state of the statement's own -/
theorem SC.ec {D' : TEnds} {D : Ends} (h : SC x W M H D' D) (r : RelS x W H M σ τ) : EC x W σ M H (fun t M1 => D'.ex t τ M1) := fun t M1 cls d H1 e rm rx q => h.ex t τ M1 cls d σ H1 e (r.ext e) rm rx q
theorem bindE {t : TE1} {R E' : TK} {S : VK} (rs : RelS x W H M σ τ) (rm : RelM x H M) (h : t τ M R E') (he : EC x W σ M H E')
    (k : ∀ u M1 v H1, Ext M H M1 H1 → RelS x W H1 M1 σ τ → RelM x H1 M1 → Rep x H1 M1 u v → R u M1 → S v H1) : liftE x W t σ H S :=
  ⟨τ, M, R, E', rs, rm, h, fun u M1 v H1 e rm1 rp q => k u M1 v H1 e (rs.ext e) rm1 rp q, he⟩
theorem bindT {t : TT1} {R : Bool → Mp → Prop} {E' : TK} {S : Bool → Hp → Prop} (rs : RelS x W H M σ τ) (rm : RelM x H M) (h : t τ M R E') (he : EC x W σ M H E')
    (k : ∀ b M1 H1, Ext M H M1 H1 → RelS x W H1 M1 σ τ → RelM x H1 M1 → R b M1 → S b H1) : liftT x W t σ H S :=
  ⟨τ, M, R, E', rs, rm, h, fun u M1 H1 e rm1 q => k u M1 H1 e (rs.ext e) rm1 q, he⟩
theorem bindA {t : TA1} {R : List T → Mp → Prop} {E' : TK} {S : List V → Hp → Prop} (rs : RelS x W H M σ τ) (rm : RelM x H M) (h : t τ M R E') (he : EC x W σ M H E')
    (k : ∀ us M1 vs H1, Ext M H M1 H1 → RelS x W H1 M1 σ τ → RelM x H1 M1 → RepL x H1 M1 us vs → R us M1 → S vs H1) : liftA x W t σ H S :=
  ⟨τ, M, R, E', rs, rm, h, fun u M1 v H1 e rm1 rp q => k u M1 v H1 e (rs.ext e) rm1 rp q, he⟩
end
end TL

set_option Elab.async false
set_option linter.all false
set_option maxRecDepth 100000
/-! TL2: the judgements over trees; names, operators, tests, displays. -/
namespace TL
open PySem PySem.Spec PyProof.Rows L2
theorem imp_e {X : Cx} {e : Expr} {t u : TE} (h : PE X e t) (k : ∀ σ H Q, u σ H Q → t σ H Q) : PE X e u := ⟨fun p s σ H Q I q => h.run p s σ H Q I (k σ H Q q)⟩
theorem imp_t {X : Cx} {e : Expr} {t u : TT} (h : PT X e t) (k : ∀ σ H Q, u σ H Q → t σ H Q) : PT X e u := ⟨fun p s σ H Q I q => h.run p s σ H Q I (k σ H Q q)⟩
theorem imp_w {X : Cx} {e : Expr} {t u : TT} (h : PW X e t) (k : ∀ σ H Q, u σ H Q → t σ H Q) : PW X e u := ⟨fun w p s σ H Q I q => h.run w p s σ H Q I (k σ H Q q)⟩
theorem imp_a {X : Cx} {e : List Expr} {t u : TA} (h : PA X e t) (k : ∀ σ H Q, u σ H Q → t σ H Q) : PA X e u := ⟨fun o p s σ H Q I q => h.run o p s σ H Q I (k σ H Q q)⟩
theorem imp_s {X : Cx} {e : Stmt} {t u : TS} (h : PS X e t) (k : ∀ D σ H, u D σ H → t D σ H) : PS X e u := ⟨fun p s σ H D I q => h.run p s σ H D I (k D σ H q)⟩
theorem imp_ss {X : Cx} {e : List Stmt} {t u : TS} (h : PSs X e t) (k : ∀ D σ H, u D σ H → t D σ H) : PSs X e u := ⟨fun p s σ H D I q => h.run p s σ H D I (k D σ H q)⟩
/-! ### reading what stands -/
def rdL (M : Mp) : T → Option (List T)
  | .node .lst ts => some ts
  | .obj a => match M a with
    | some (.lst, ts) => some ts
    | _ => none
  | _ => none
def rdU : T → Option (List T)
  | .node .tup ts => some ts
  | _ => none
/-- a list or a tuple -/
def rdS (M : Mp) : T → Option (List T)
  | .node .lst ts => some ts
  | .node .tup ts => some ts
  | .obj a => match M a with
    | some (.lst, ts) => some ts
    | _ => none
  | _ => none
section
variable {x : Tx} {W : Wz} {H : Hp} {M : Mp} {t : T} {v : V} {ts : List T}
theorem rdL_ok (rm : RelM x H M) (r : Rep x H M t v) (h : rdL M t = some ts) : ∃ a vs, v = .ref a ∧ SqL x.K H a vs ∧ RepL x H M ts vs := by
  unfold rdL at h
  split at h
  · cases h
    unfold Rep at r
    obtain ⟨a, vs, rfl, hh, hl⟩ := r
    refine ⟨a, vs, rfl, ?_, hl⟩
    rcases hh with ⟨_, _, h⟩ | h
    · exact .inl h
    · exact .inr h
  · rename_i a
    unfold Rep at r
    split at h
    · rename_i us hm
      cases h
      obtain ⟨vs, h1, h2⟩ := rm.1 a _ _ hm
      exact ⟨a, vs, r, .inl (.inl h1), h2⟩
    · cases h
  · cases h
theorem rdU_ok (r : Rep x H M t v) (h : rdU t = some ts) : ∃ a vs, v = .ref a ∧ SqT x.K H a vs ∧ RepL x H M ts vs := by
  unfold rdU at h
  split at h
  · cases h
    unfold Rep at r
    obtain ⟨a, vs, rfl, hh, hl⟩ := r
    refine ⟨a, vs, rfl, ?_, hl⟩
    rcases hh with ⟨_, _, h⟩ | h
    · exact .inl (.inl h)
    · exact .inr h
  · cases h
theorem rdS_ok (rm : RelM x H M) (r : Rep x H M t v) (h : rdS M t = some ts) : ∃ a vs, v = .ref a ∧ (SqL x.K H a vs ∨ SqT x.K H a vs) ∧ RepL x H M ts vs := by
  cases e : rdL M t with
  | some us =>
    have : ts = us := by
      unfold rdS at h; unfold rdL at e
      split at e
      · simp at h e; rw [← h, ← e]
      · rename_i a
        simp only at h
        rw [h] at e; cases e; rfl
      · cases e
    subst this
    obtain ⟨a, vs, e1, e2, e3⟩ := rdL_ok rm r e
    exact ⟨a, vs, e1, .inl e2, e3⟩
  | none =>
    have : rdU t = some ts := by
      unfold rdS at h; unfold rdL at e
      split at h
      · cases e
      · cases h; rfl
      · simp only at e
        rw [h] at e; cases e
      · cases h
    obtain ⟨a, vs, e1, e2, e3⟩ := rdU_ok r this
    exact ⟨a, vs, e1, .inr e2, e3⟩
theorem rep_int {i : Int} (r : Rep x H M (.int i) v) : v = .int i := by unfold Rep at r; exact r
theorem rep_str {i : Str} (r : Rep x H M (.str i) v) : v = .str i := by unfold Rep at r; exact r.1
theorem rep_ok {i : Str} (r : Rep x H M (.str i) v) : PyData.strOk i = true := by unfold Rep at r; exact r.2
theorem rep_bl {i : Bool} (r : Rep x H M (.bl i) v) : v = .bl i := by unfold Rep at r; exact r
theorem rep_non (r : Rep x H M .non v) : v = .non := by unfold Rep at r; exact r
theorem rep_ty {n : String} (r : Rep x H M (.ty n) v) : v = .ty n := by unfold Rep at r; exact r
theorem rep_obj {a : Addr} (r : Rep x H M (.obj a) v) : v = .ref a := by unfold Rep at r; exact r
theorem rep_int_ {i : Int} : Rep x H M (.int i) (.int i) := by unfold Rep; rfl
theorem rep_str_ {i : Str} (h : PyData.strOk i = true) : Rep x H M (.str i) (.str i) := by unfold Rep; exact ⟨rfl, h⟩
theorem rep_bl_ {i : Bool} : Rep x H M (.bl i) (.bl i) := by unfold Rep; rfl
theorem rep_non_ : Rep x H M .non .non := by unfold Rep; rfl
theorem rep_ty_ {n : String} : Rep x H M (.ty n) (.ty n) := by unfold Rep; rfl
theorem rep_obj_ {a : Addr} : Rep x H M (.obj a) (.ref a) := by unfold Rep; rfl
/-- all allI -/
def allI : List T → Option (List Int)
  | [] => some []
  | .int i :: r => (allI r).map (i :: ·)
  | _ => none
def allS : List T → Option (List Str)
  | [] => some []
  | .str i :: r => (allS r).map (i :: ·)
  | _ => none
theorem allI_ok : ∀ {ts : List T} {vs : List V} {ns : List Int}, RepL x H M ts vs → allI ts = some ns → vs = ns.map V.int
  | [], _, ns, r, h => by unfold RepL at r; subst r; cases h; rfl
  | t :: ts, _, ns, r, h => by
    unfold RepL at r
    obtain ⟨v, ws, rfl, r1, r2⟩ := r
    unfold allI at h
    split at h
    · rename_i e; cases e
    · rename_i i r' e
      cases e
      cases q : allI ts with
      | none => rw [q] at h; cases h
      | some ms =>
        rw [q] at h; cases h
        rw [allI_ok r2 q, rep_int r1]; rfl
    · cases h
theorem allS_ok : ∀ {ts : List T} {vs : List V} {ns : List Str}, RepL x H M ts vs → allS ts = some ns → vs = ns.map V.str
  | [], _, ns, r, h => by unfold RepL at r; subst r; cases h; rfl
  | t :: ts, _, ns, r, h => by
    unfold RepL at r
    obtain ⟨v, ws, rfl, r1, r2⟩ := r
    unfold allS at h
    split at h
    · rename_i e; cases e
    · rename_i i r' e
      cases e
      cases q : allS ts with
      | none => rw [q] at h; cases h
      | some ms =>
        rw [q] at h; cases h
        rw [allS_ok r2 q, rep_str r1]; rfl
    · cases h
theorem allS_map : ∀ l : List Str, allS (l.map T.str) = some l
  | [] => rfl
  | a :: l => by simp [allS, allS_map l]
theorem allI_map : ∀ l : List Int, allI (l.map T.int) = some l
  | [] => rfl
  | a :: l => by simp [allI, allI_map l]
end
/-! ### new lists and tuples -/
/-- a new list: one that stays, or one that may change -/
def newL (ts : List T) (M : Mp) (Q : TK) : Prop := Q (.node .lst ts) M ∨ ∀ p, M p = none → Q (.obj p) (updM M p (.lst, ts))
section
variable {x : Tx} {W : Wz} {H : Hp} {M : Mp}
theorem newT_ok {ts : List T} {vs : List V} {Q' : TK} {Q : VK} (rm : RelM x H M) (rl : RepL x H M ts vs) (h : Q' (.node .tup ts) M) (q : QC x M H Q' Q) : ∀ p, H p = none → Q (.ref p) (upd H p (.tup vs)) := fun p hp =>
  q _ M _ _ (Ext.new hp) (rm.new hp) (by unfold Rep; exact ⟨p, vs, rfl, .inl ⟨rm.free hp, rm.nf hp, upd_same⟩, rl.ext (Ext.new hp)⟩) h
theorem newL_ok {ts : List T} {vs : List V} {Q' : TK} {Q : VK} (rm : RelM x H M) (rl : RepL x H M ts vs) (h : newL ts M Q') (q : QC x M H Q' Q) : ∀ p, H p = none → Q (.ref p) (upd H p (.lst vs)) := fun p hp => by
  rcases h with h | h
  · exact q _ M _ _ (Ext.new hp) (rm.new hp) (by unfold Rep; exact ⟨p, vs, rfl, .inl ⟨rm.free hp, rm.nf hp, .inl upd_same⟩, rl.ext (Ext.new hp)⟩) h
  · exact q _ _ _ _ (Ext.newM hp) (rm.newM (k := .lst) (vs := vs) hp upd_same rl) rep_obj_ (h p (rm.free hp))
end
/-! ### the judgements -/
section
variable (X : Cx) (x : Tx) (W : Wz)
def PE1 (e : Expr) (t : TE1) : Prop := PE X e (liftE x W t)
def PT1 (e : Expr) (t : TT1) : Prop := PT X e (liftT x W t)
def PW1 (e : Expr) (t : TT1) : Prop := PW X e (liftT x W t)
def PA1 (es : List Expr) (t : TA1) : Prop := PA X es (liftA x W t)
def PS1 (st : Stmt) (t : TS1) : Prop := PS X st (liftS x W t)
def PSs1 (st : List Stmt) (t : TS1) : Prop := PSs X st (liftS x W t)
end
section
variable {X : Cx} {x : Tx} {W : Wz} {a b c e : Expr} {pos : Pos} {ta tb tc te : TE1}
/-! ### names, constants -/
def tVar1 (i : Nat) : TE1 := fun τ M Q _ => match τ[i]? with
  | some (some t) => Q t M
  | _ => False
def tC1 (t : T) : TE1 := fun _ M Q _ => Q t M
theorem pv1 (i : Nat) {y : Str} (hN : X.N[i]? = some y := by rfl) (hv : Vis X.env.scope y := by first | exact Or.inl rfl | exact Or.inr (Or.inl rfl) | exact Or.inr (Or.inr rfl)) (hd : (y == ("__debug__" : Str)) = false := by decide)
    (hcd : (y == ("__classdict__" : Str)) = false := by decide) : PE1 X x W (.Name y pos) (tVar1 i) := by
  refine imp_e (pe_var (i := i) hN hv hd hcd) fun σ H Q ⟨τ, M, Q', E', rs, rm, h, q, _⟩ => ?_
  unfold tVar1 at h
  split at h
  · rename_i t e
    obtain ⟨v, e1, r⟩ := rs.2.1 i t e
    exact ⟨v, e1, q t M v H .refl rm r h⟩
  · exact h.elim
theorem pc1 {t : T} {v : V} (h : PE X e (tC v)) (r : ∀ H M, Rep x H M t v) : PE1 X x W e (tC1 t) :=
  imp_e h fun σ H Q ⟨τ, M, Q', E', rs, rm, h, q, _⟩ => q t M v H .refl rm (r H M) h
theorem pi1 {i : Int} {j : Nat} : PE1 X x W (.Constant (.int i) j pos) (tC1 (.int i)) := pc1 pe_int fun _ _ => rep_int_
theorem pb1 {i : Bool} {j : Nat} : PE1 X x W (.Constant (.bool i) j pos) (tC1 (.bl i)) := pc1 pe_bl fun _ _ => rep_bl_
theorem pn1 {j : Nat} : PE1 X x W (.Constant .none j pos) (tC1 .non) := pc1 pe_non fun _ _ => rep_non_
theorem pq1 {i : Str} {j : Nat} (h : PyData.strOk i = true := by decide +kernel) : PE1 X x W (.Constant (.str i) j pos) (tC1 (.str i)) := pc1 pe_str fun _ _ => rep_str_ h
theorem pg1 {y : Str} {t : T} {v : V} {u : Value} (hm : X.mg y = some u) (r : RelV v u) (rt : ∀ H M, Rep x H M t v) (hg : Gl X y := by rfl) (hd : (y == ("__debug__" : Str)) = false := by decide) : PE1 X x W (.Name y pos) (tC1 t) := pc1 (pe_glob hg hm r hd) rt
theorem pbt1 {y : Str} {n : String} (hm : X.mg y = none) (hv : bootBuiltins y = some (.type n)) (hg : Gl X y := by rfl) (hn : y ≠ "__name__" := by decide) (hd : (y == ("__debug__" : Str)) = false := by decide) : PE1 X x W (.Name y pos) (tC1 (.ty n)) :=
  pc1 (pe_bltn hg hm hv (v := .ty n) rfl hn hd) fun _ _ => rep_ty_
/-! ### operators -/
abbrev R21 := T → T → Mp → TK → Prop
/-- an operator's rule on trees -/
def Op1 (X : Cx) (x : Tx) (f : Value → Value → Sem Value) (r' : R21) : Prop :=
  ∃ r : R2, OpR X f r ∧ ∀ (u v : T) (p q : V) (M : Mp) (H : Hp) (Q' : TK) (Q : VK), RelM x H M → Rep x H M u p → Rep x H M v q → r' u v M Q' → QC x M H Q' Q → r p q H Q
theorem Op1.or {f : Value → Value → Sem Value} {r s : R21} (h : Op1 X x f r) (g : Op1 X x f s) : Op1 X x f (fun u v M Q => r u v M Q ∨ s u v M Q) := by
  obtain ⟨r0, h1, h2⟩ := h
  obtain ⟨s0, g1, g2⟩ := g
  exact ⟨_, h1.or g1, fun u v p q M H Q' Q rm a b h k => h.elim (fun h => .inl (h2 u v p q M H Q' Q rm a b h k)) fun h => .inr (g2 u v p q M H Q' Q rm a b h k)⟩
theorem Op1.imp {f : Value → Value → Sem Value} {r s : R21} (h : Op1 X x f r) (k : ∀ u v M Q, s u v M Q → r u v M Q) : Op1 X x f s := by
  obtain ⟨r0, h1, h2⟩ := h
  exact ⟨_, h1, fun u v p q M H Q' Q rm a b h c => h2 u v p q M H Q' Q rm a b (k u v M Q' h) c⟩
def tOp1 (r : R21) (ta tb : TE1) : TE1 := fun τ M Q E => ta τ M (fun u M1 => tb τ M1 (fun v M2 => r u v M2 Q) E) E
theorem po1 {op : Operator} {r : R21} (ho : Op1 X x (binaryOp op) r) (ha : PE1 X x W a ta) (hb : PE1 X x W b tb) : PE1 X x W (.BinOp a op b pos) (tOp1 r ta tb) := by
  obtain ⟨r0, h1, h2⟩ := ho
  refine imp_e (pe_op h1 ha hb) fun σ H Q ⟨τ, M, Q', E', rs, rm, h, q, ec⟩ => ?_
  refine bindE rs rm h ec fun u M1 v H1 e1 rs1 rm1 r1 h1 => ?_
  refine bindE rs1 rm1 h1 (ec.ext e1) fun w M2 y H2 e2 rs2 rm2 r2 h3 => ?_
  exact h2 u w v y M2 H2 Q' Q rm2 (r1.ext e2) r2 h3 (q.ext (e1.trans e2))
/-- allI to an int -/
def gI (C : Int → Int → Prop) (g : Int → Int → T) : R21
  | .int i, .int j, M, Q => C i j ∧ Q (g i j) M
  | _, _, _, _ => False
def gI0 (g : Int → Int → T) : R21
  | .int i, .int j, M, Q => Q (g i j) M
  | _, _, _, _ => False
theorem op1I {f : Value → Value → Sem Value} {C : Int → Int → Prop} {g : Int → Int → V} {g' : Int → Int → T} (h : OpR X f (rI C g)) (hg : ∀ i j H M, Rep x H M (g' i j) (g i j)) : Op1 X x f (gI C g') := by
  refine ⟨_, h, fun u v p q M H Q' Q rm r1 r2 h k => ?_⟩
  unfold gI at h
  split at h
  · exact ⟨_, _, rep_int r1, rep_int r2, h.1, k _ M _ H .refl rm (hg _ _ _ _) h.2⟩
  · exact h.elim
theorem op1I0 {f : Value → Value → Sem Value} {g : Int → Int → V} {g' : Int → Int → T} (h : OpR X f (rI0 g)) (hg : ∀ i j H M, Rep x H M (g' i j) (g i j)) : Op1 X x f (gI0 g') := by
  refine ⟨_, h, fun u v p q M H Q' Q rm r1 r2 h k => ?_⟩
  unfold gI0 at h
  split at h
  · exact ⟨_, _, rep_int r1, rep_int r2, k _ M _ H .refl rm (hg _ _ _ _) h⟩
  · exact h.elim
end
end TL

set_option Elab.async false
set_option linter.all false
set_option maxRecDepth 100000
/-! TL3: operators on trees, comparisons, tests, argument lists, displays. -/
namespace TL
open PySem PySem.Spec PyProof.Rows L2
/-! ### texts' signs -/
theorem ok_iff {y : Str} : PyData.strOk y = true ↔ ∀ c ∈ y.cps.toList, c < 0x110000 := by
  unfold PyData.strOk
  rw [Array.all_eq_true_iff_forall_mem]
  simp
theorem ok_app {a b : Str} (ha : PyData.strOk a = true) (hb : PyData.strOk b = true) : PyData.strOk (a ++ b) = true := by
  rw [ok_iff] at *
  intro c hc
  have : (a ++ b).cps.toList = a.cps.toList ++ b.cps.toList := by
    show (a.cps ++ b.cps).toList = _
    simp
  rw [this] at hc
  rcases List.mem_append.mp hc with h | h
  · exact ha c h
  · exact hb c h
theorem ok_sub {a b : Str} (ha : PyData.strOk a = true) (h : ∀ c ∈ b.cps.toList, c ∈ a.cps.toList) : PyData.strOk b = true := by
  rw [ok_iff] at *
  exact fun c hc => ha c (h c hc)
section
variable {X : Cx} {x : Tx} {W : Wz} {H : Hp} {M : Mp} {a b c e : Expr} {pos : Pos} {ta tb tc te : TE1}
/-! ### + -/
def addS : R21
  | .str i, .str j, M, Q => i.length + j.length ≤ sizeLine ∧ Q (.str (i ++ j)) M
  | _, _, _, _ => False
theorem op1_addS : Op1 X x (binaryOp .Add) addS := by
  refine ⟨_, op_add_str, fun u v p q M H Q' Q rm r1 r2 h k => ?_⟩
  unfold addS at h
  split at h
  · exact ⟨_, _, rep_str r1, rep_str r2, h.1, k _ M _ H .refl rm (rep_str_ (ok_app (rep_ok r1) (rep_ok r2))) h.2⟩
  · exact h.elim
theorem op1_iaddS : Op1 X x (inplaceOp .Add) addS := by
  refine ⟨_, iop_add_str, fun u v p q M H Q' Q rm r1 r2 h k => ?_⟩
  unfold addS at h
  split at h
  · exact ⟨_, _, rep_str r1, rep_str r2, h.1, k _ M _ H .refl rm (rep_str_ (ok_app (rep_ok r1) (rep_ok r2))) h.2⟩
  · exact h.elim
theorem op1_add : Op1 X x (binaryOp .Add) (gI0 fun i j => .int (i + j)) := op1I0 op_add fun _ _ _ _ => rep_int_
theorem op1_sub : Op1 X x (binaryOp .Sub) (gI0 fun i j => .int (i - j)) := op1I0 op_sub fun _ _ _ _ => rep_int_
theorem op1_mulW : Op1 X x (binaryOp .Mult) (gI CMulW fun i j => .int (i * j)) := op1I op_mulW fun _ _ _ _ => rep_int_
theorem op1_mul : Op1 X x (binaryOp .Mult) (gI CMul fun i j => .int (i * j)) := op1I op_mul fun _ _ _ _ => rep_int_
theorem op1_fdivW : Op1 X x (binaryOp .FloorDiv) (gI CDivW fun i j => .int (i / j)) := op1I op_fdivW fun _ _ _ _ => rep_int_
theorem op1_mod : Op1 X x (binaryOp .Mod) (gI (fun _ j => 0 < j) fun i j => .int (i % j)) := op1I op_mod fun _ _ _ _ => rep_int_
theorem op1_pow : Op1 X x (binaryOp .Pow) (gI CPow fun i j => .int (i ^ j.toNat)) := op1I op_pow fun _ _ _ _ => rep_int_
theorem op1_shl : Op1 X x (binaryOp .LShift) (gI CPow fun i j => .int (i * 2 ^ j.toNat)) := op1I op_shl fun _ _ _ _ => rep_int_
theorem op1_shr : Op1 X x (binaryOp .RShift) (gI (fun _ j => 0 ≤ j) fun i j => .int (i / 2 ^ j.toNat)) := op1I op_shr fun _ _ _ _ => rep_int_
theorem op1_or : Op1 X x (binaryOp .BitOr) (gI0 fun i j => .int (Builtin.bitOr i j)) := op1I0 op_or fun _ _ _ _ => rep_int_
theorem op1_xor : Op1 X x (binaryOp .BitXor) (gI0 fun i j => .int (Builtin.bitXor i j)) := op1I0 op_xor fun _ _ _ _ => rep_int_
/-- list + list -/
theorem op_cat2 : OpR X (binaryOp .Add) (fun x y H Q => ∃ l b xs zs, x = .ref l ∧ y = .ref b ∧ Rd H l (.lst xs) ∧ Rd H b (.lst zs) ∧ xs.length + zs.length ≤ sizeLine ∧ ∀ p, H p = none → Q (.ref p) (upd H p (.lst (xs ++ zs)))) := by
  intro pins s σ H p q v u Q I rp rq h
  obtain ⟨l, b, xs, zs, rfl, rfl, hl, hb, hz, k⟩ := h
  cases rp
  cases rq
  obtain ⟨_, its, n, r, e⟩ := hl.ok I.hok
  obtain ⟨_, jts, m, r', e'⟩ := hb.ok I.hok
  have n1 := r.length
  have n2 := r'.length
  refine PySem.P.add_list e e' ?_ (by simp only [List.size_toArray]; omega)
  have ea : its.toArray ++ jts.toArray = (its ++ jts).toArray := by simp
  rw [ea]
  exact ⟨.ref _, _, I.lnew (t' := s.toks) (r.append r') (by simp only [List.length_append]; omega), rfl, k _ I.fresh⟩
/-- a list that is read, not of the written part -/
def rdW (M : Mp) : T → Option (List T) := rdL M
def addL : R21 := fun u v M Q => ∃ xs ys, rdL M u = some xs ∧ rdL M v = some ys ∧ xs.length + ys.length ≤ sizeLine ∧ newL (xs ++ ys) M Q
/-! ### comparisons -/
mutual
def toD : T → Option PyData
  | .non => some .none
  | .bl b => some (.bool b)
  | .int i => some (.int i)
  | .str y => some (.str y)
  | .ty _ => none
  | .obj _ => none
  | .node k ts => match k, toDs ts with
    | .lst, some ds => some (.list ds)
    | .tup, some ds => some (.tuple ds)
    | _, _ => none
def toDs : List T → Option (List PyData)
  | [] => some []
  | t :: ts => match toD t, toDs ts with
    | some d, some ds => some (d :: ds)
    | _, _ => none
end
def toDM (M : Mp) : T → Option PyData
  | .obj a => match M a with
    | some (.lst, ts) => (toDs ts).map .list
    | _ => none
  | t => toD t
mutual
theorem toD_ok : ∀ {t : T} {v : V} {d : PyData}, Rep x H M t v → toD t = some d → Dp x.K H v d
  | .non, v, d, r, h => by unfold toD at h; cases h; rw [rep_non r]; exact .non
  | .bl b, v, d, r, h => by unfold toD at h; cases h; rw [rep_bl r]; exact .bl b
  | .int b, v, d, r, h => by unfold toD at h; cases h; rw [rep_int r]; exact .int b
  | .str b, v, d, r, h => by unfold toD at h; cases h; rw [rep_str r]; exact .str b
  | .ty _, v, d, r, h => by unfold toD at h; cases h
  | .obj _, v, d, r, h => by unfold toD at h; cases h
  | .node k ts, v, d, r, h => by
    unfold toD at h
    unfold Rep at r
    obtain ⟨a, vs, rfl, hh, hl⟩ := r
    split at h
    · rename_i ds e
      cases h
      refine .lst ?_ (toDs_ok hl e)
      rcases hh with ⟨_, _, h⟩ | h
      · exact .inl h
      · exact .inr h
    · rename_i ds e
      cases h
      refine .tup ?_ (toDs_ok hl e)
      rcases hh with ⟨_, _, h⟩ | h
      · exact .inl (.inl h)
      · exact .inr h
    · cases h
theorem toDs_ok : ∀ {ts : List T} {vs : List V} {ds : List PyData}, RepL x H M ts vs → toDs ts = some ds → DpAll x.K H vs ds
  | [], vs, ds, r, h => by unfold toDs at h; cases h; unfold RepL at r; subst r; exact .nil
  | t :: ts, vs, ds, r, h => by
    unfold toDs at h
    unfold RepL at r
    obtain ⟨v, ws, rfl, r1, r2⟩ := r
    split at h
    · rename_i d ds e1 e2
      cases h
      exact .cons (toD_ok r1 e1) (toDs_ok r2 e2)
    · cases h
end
theorem toDM_ok {t : T} {v : V} {d : PyData} (rm : RelM x H M) (r : Rep x H M t v) (h : toDM M t = some d) : Dp x.K H v d := by
  unfold toDM at h
  split at h
  · rename_i a
    split at h
    · rename_i ts e
      rw [rep_obj r]
      obtain ⟨vs, h1, h2⟩ := rm.1 a _ _ e
      cases q : toDs ts with
      | none => rw [q] at h; cases h
      | some ds =>
        rw [q] at h; cases h
        exact .lst (.inl (.inl h1)) (toDs_ok h2 q)
    · cases h
  · exact toD_ok r h
/-- the scalars -/
def eqS : T → T → Option Bool
  | .non, .non => some true | .non, .int _ => some false | .int _, .non => some false | .non, .bl _ => some false | .bl _, .non => some false | .non, .str _ => some false | .str _, .non => some false
  | .int i, .int j => some (decide (i = j)) | .bl i, .bl j => some (decide (i = j)) | .str i, .str j => some (decide (i = j))
  | .int _, .str _ => some false | .str _, .int _ => some false | .bl _, .str _ => some false | .str _, .bl _ => some false
  | _, _ => none
theorem eqS_ok {u v : T} {p q : V} {k : Bool} (r1 : Rep x H M u p) (r2 : Rep x H M v q) (h : eqS u v = some k) : scal p q = true ∧ decide (p = q) = k := by
  unfold eqS at h
  split at h
  all_goals first
    | (cases h
       (first | rw [rep_non r1] | rw [rep_int r1] | rw [rep_bl r1] | rw [rep_str r1])
       (first | rw [rep_non r2] | rw [rep_int r2] | rw [rep_bl r2] | rw [rep_str r2])
       exact ⟨rfl, by simp⟩)
    | cases h
def dpt (d : PyData) : Bool := SeqAt.shaped d
def eq1 (neg : Bool) : R21 := fun u v M Q => match eqS u v with
  | some k => Q (.bl (k ^^ neg)) M
  | none => match toDM M u, toDM M v with
    | some d, some e => SeqAt.shaped d = true ∧ SeqAt.shaped e = true ∧ Q (.bl (PyData.eqv d e ^^ neg)) M
    | _, _ => False
theorem op1_eq (hu : X.A.units + 64 < cLine) (hK : X.K = x.K) : Op1 X x (compareOp .Eq) (eq1 false) := by
  refine ⟨_, op_eq.or (op_eqD hu), fun u v p q M H Q' Q rm r1 r2 h k => ?_⟩
  unfold eq1 at h
  split at h
  · rename_i k' e
    obtain ⟨e1, e2⟩ := eqS_ok r1 r2 e
    exact .inl ⟨e1, by rw [e2]; exact k _ M _ H .refl rm rep_bl_ (by simpa using h)⟩
  · split at h
    · rename_i d e e1 e2
      exact .inr ⟨d, e, hK ▸ toDM_ok rm r1 e1, hK ▸ toDM_ok rm r2 e2, h.1, h.2.1, k _ M _ H .refl rm rep_bl_ (by simpa using h.2.2)⟩
    · exact h.elim
theorem op1_ne (hu : X.A.units + 64 < cLine) (hK : X.K = x.K) : Op1 X x (compareOp .NotEq) (eq1 true) := by
  refine ⟨_, op_ne.or (op_neD hu), fun u v p q M H Q' Q rm r1 r2 h k => ?_⟩
  unfold eq1 at h
  split at h
  · rename_i k' e
    obtain ⟨e1, e2⟩ := eqS_ok r1 r2 e
    exact .inl ⟨e1, by rw [e2]; exact k _ M _ H .refl rm rep_bl_ (by simpa using h)⟩
  · split at h
    · rename_i d e e1 e2
      exact .inr ⟨d, e, hK ▸ toDM_ok rm r1 e1, hK ▸ toDM_ok rm r2 e2, h.1, h.2.1, k _ M _ H .refl rm rep_bl_ (by simpa using h.2.2)⟩
    · exact h.elim
theorem op1_lt : Op1 X x (compareOp .Lt) (gI0 fun i j => .bl (decide (i < j))) := op1I0 op_lt fun _ _ _ _ => rep_bl_
theorem op1_le : Op1 X x (compareOp .LtE) (gI0 fun i j => .bl (decide (i ≤ j))) := op1I0 op_le fun _ _ _ _ => rep_bl_
theorem op1_gt : Op1 X x (compareOp .Gt) (gI0 fun i j => .bl (decide (j < i))) := op1I0 op_gt fun _ _ _ _ => rep_bl_
theorem op1_ge : Op1 X x (compareOp .GtE) (gI0 fun i j => .bl (decide (j ≤ i))) := op1I0 op_ge fun _ _ _ _ => rep_bl_
/-- is None -/
def isN1 (neg : Bool) : R21
  | u, .non, M, Q => match u with
    | .non => Q (.bl (true ^^ neg)) M
    | .obj _ => Q (.bl (false ^^ neg)) M
    | .bl _ => Q (.bl (false ^^ neg)) M
    | .int _ => Q (.bl (false ^^ neg)) M
    | .str _ => Q (.bl (false ^^ neg)) M
    | .ty _ => Q (.bl (false ^^ neg)) M
    | .node _ _ => Q (.bl (false ^^ neg)) M
  | _, _, _, _ => False
theorem rep_ne_non {t : T} {v : V} (r : Rep x H M t v) (h : t ≠ .non) : v ≠ .non := by
  cases t with
  | non => exact absurd rfl h
  | bl b => rw [rep_bl r]; simp
  | int b => rw [rep_int r]; simp
  | str b => rw [rep_str r]; simp
  | ty b => rw [rep_ty r]; simp
  | obj b => rw [rep_obj r]; simp
  | node k ts => unfold Rep at r; obtain ⟨a, vs, rfl, _⟩ := r; simp
theorem op1_isN : Op1 X x (compareOp .Is) (isN1 false) := by
  refine ⟨_, op_isN, fun u v p q M H Q' Q rm r1 r2 h k => ?_⟩
  unfold isN1 at h
  split at h
  · refine ⟨rep_non r2, k _ M _ H .refl rm rep_bl_ ?_⟩
    split at h
    · rw [rep_non r1]; simpa using h
    all_goals (rw [decide_eq_false (rep_ne_non r1 (by simp))]; simpa using h)
  · exact h.elim
theorem op1_notN : Op1 X x (compareOp .IsNot) (isN1 true) := by
  refine ⟨_, op_notN, fun u v p q M H Q' Q rm r1 r2 h k => ?_⟩
  unfold isN1 at h
  split at h
  · refine ⟨rep_non r2, k _ M _ H .refl rm rep_bl_ ?_⟩
    split at h
    · rw [rep_non r1]; simpa using h
    all_goals (rw [decide_eq_false (rep_ne_non r1 (by simp))]; simpa using h)
  · exact h.elim
/-- one sign in a text -/
def inC (neg : Bool) : R21
  | .str i, .str z, M, Q => ∃ c, i = ⟨#[c]⟩ ∧ Q (.bl (decide (c ∈ z.cps.toList) ^^ neg)) M
  | _, _, _, _ => False
/-! ### a comparison as a value, as a test -/
theorem pm1 {op : CmpOp} {r : R21} (ho : Op1 X x (compareOp op) r) (ha : PE1 X x W a ta) (hb : PE1 X x W b tb) (hm : behindInMarks op b = false := by first | exact nomark _ | rfl) : PE1 X x W (.Compare a [op] [b] pos) (tOp1 r ta tb) := by
  obtain ⟨r0, h1, h2⟩ := ho
  refine imp_e (pe_cmpR h1 ha hb hm) fun σ H Q ⟨τ, M, Q', E', rs, rm, h, q, ec⟩ => ?_
  refine bindE rs rm h ec fun u M1 v H1 e1 rs1 rm1 r1 h1 => ?_
  refine bindE rs1 rm1 h1 (ec.ext e1) fun w M2 y H2 e2 rs2 rm2 r2 h3 => ?_
  exact h2 u w v y M2 H2 Q' Q rm2 (r1.ext e2) r2 h3 (q.ext (e1.trans e2))
/-- a value that is True or False, as a test -/
def bl1 (Q : Bool → Mp → Prop) (M : Mp) : T → Prop
  | .bl k => Q k M
  | _ => False
def tBl1 (t : TE1) : TT1 := fun τ M Q E => t τ M (fun u M1 => bl1 Q M1 u) E
theorem blQ {Q' : Bool → Mp → Prop} {Q : Bool → Hp → Prop} {H1 : Hp} {M1 : Mp} {u : T} {v : V} (r : Rep x H1 M1 u v) (k : ∀ b, Q' b M1 → Q b H1) (h : bl1 Q' M1 u) : ∃ c, v = .bl c ∧ Q c H1 := by
  unfold bl1 at h
  split at h
  · exact ⟨_, rep_bl r, k _ h⟩
  · exact h.elim
theorem ptm1 {op : CmpOp} {r : R21} (ho : Op1 X x (compareOp op) r) (ha : PE1 X x W a ta) (hb : PE1 X x W b tb) (hm : behindInMarks op b = false := by first | exact nomark _ | rfl) : PT1 X x W (.Compare a [op] [b] pos) (tBl1 (tOp1 r ta tb)) := by
  obtain ⟨r0, h1, h2⟩ := ho
  refine imp_t (pt_cmpR h1 ha hb hm) fun σ H Q ⟨τ, M, Q', E', rs, rm, h, q, ec⟩ => ?_
  refine bindE rs rm h ec fun u M1 v H1 e1 rs1 rm1 r1 h1 => ?_
  refine bindE rs1 rm1 h1 (ec.ext e1) fun w M2 y H2 e2 rs2 rm2 r2 h3 => ?_
  exact h2 u w v y M2 H2 _ _ rm2 (r1.ext e2) r2 h3 fun t M3 v3 H3 e3 rm3 r3 h4 => blQ r3 (fun b hb => q b M3 H3 ((e1.trans e2).trans e3) rm3 hb) h4
theorem ptv1 (h : PE1 X x W e te) (he : ∀ whole, isTrue e X.env whole = (do let v ← whole; standAt e.pos; holding [v] (truthy v)) := by intro _; rfl) : PT1 X x W e (tBl1 te) := by
  refine imp_t (pt_val h he) fun σ H Q ⟨τ, M, Q', E', rs, rm, h, q, ec⟩ => ?_
  exact bindE rs rm h ec fun u M1 v H1 e1 rs1 rm1 r1 h1 => blQ r1 (fun b hb => q b M1 H1 e1 rm1 hb) h1
/-- a op1 b op2 c -/
def tCh1 (r r' : R21) (ta tb tc : TE1) : TE1 := fun τ M Q E => ta τ M (fun u M1 => tb τ M1 (fun v M2 => r u v M2 fun z M3 => match z with
  | .bl k => if k = true then tc τ M3 (fun w M4 => r' v w M4 Q) E else Q (.bl false) M3
  | _ => False) E) E
theorem chainQ {op op' : CmpOp} {r r' : R21} {r0 r0' : R2} (h2 : ∀ (u v : T) (p q : V) (M : Mp) (H : Hp) (Q' : TK) (Q : VK), RelM x H M → Rep x H M u p → Rep x H M v q → r u v M Q' → QC x M H Q' Q → r0 p q H Q)
    (h2' : ∀ (u v : T) (p q : V) (M : Mp) (H : Hp) (Q' : TK) (Q : VK), RelM x H M → Rep x H M u p → Rep x H M v q → r' u v M Q' → QC x M H Q' Q → r0' p q H Q) {σ : L2.St} {H : Hp} {Q : VK} (h : liftE x W (tCh1 r r' ta tb tc) σ H Q) :
    tChain r0 r0' (liftE x W ta) (liftE x W tb) (liftE x W tc) σ H Q := by
  obtain ⟨τ, M, Q', E', rs, rm, h, q, ec⟩ := h
  refine bindE rs rm h ec fun u M1 v H1 e1 rs1 rm1 r1 h1 => ?_
  refine bindE rs1 rm1 h1 (ec.ext e1) fun w M2 y H2 e2 rs2 rm2 r2 h3 => ?_
  refine h2 u w v y M2 H2 _ _ rm2 (r1.ext e2) r2 h3 fun t M3 v3 H3 e3 rm3 r3 h4 => ?_
  have ee := (e1.trans e2).trans e3
  split at h4
  · rename_i k
    refine ⟨k, rep_bl r3, ?_⟩
    cases k with
    | true =>
      rw [if_pos rfl] at h4 ⊢
      refine bindE (rs2.ext e3) rm3 h4 (ec.ext ee) fun z M4 y4 H4 e4 rs4 rm4 r4 h5 => ?_
      exact h2' w z y y4 M4 H4 Q' Q rm4 (r2.ext (e3.trans e4)) r4 h5 (q.ext (ee.trans e4))
    | false =>
      rw [if_neg Bool.false_ne_true] at h4 ⊢
      exact q _ M3 _ H3 ee rm3 rep_bl_ h4
  · exact h4.elim
theorem pch1 {op op' : CmpOp} {r r' : R21} (ho : Op1 X x (compareOp op) r) (ho' : Op1 X x (compareOp op') r') (ha : PE1 X x W a ta) (hb : PE1 X x W b tb) (hc : PE1 X x W c tc) (hm : lastMarks [op, op'] [b, c] = false := by with_unfolding_all rfl) :
    PE1 X x W (.Compare a [op, op'] [b, c] pos) (tCh1 r r' ta tb tc) := by
  obtain ⟨r0, h1, h2⟩ := ho
  obtain ⟨r0', h1', h2'⟩ := ho'
  exact imp_e (pe_chain h1 h1' ha hb hc hm) fun σ H Q h => chainQ (op := op) (op' := op') h2 h2' h
theorem ptch1 {op op' : CmpOp} {r r' : R21} (ho : Op1 X x (compareOp op) r) (ho' : Op1 X x (compareOp op') r') (ha : PE1 X x W a ta) (hb : PE1 X x W b tb) (hc : PE1 X x W c tc) (hm : lastMarks [op, op'] [b, c] = false := by with_unfolding_all rfl) :
    PT1 X x W (.Compare a [op, op'] [b, c] pos) (tBl1 (tCh1 r r' ta tb tc)) := by
  obtain ⟨r0, h1, h2⟩ := ho
  obtain ⟨r0', h1', h2'⟩ := ho'
  refine imp_t (pt_chain h1 h1' ha hb hc hm) fun σ H Q ⟨τ, M, Q', E', rs, rm, h, q, ec⟩ => ?_
  refine chainQ (op := op) (op' := op') h2 h2' ⟨τ, M, _, E', rs, rm, h, fun t M1 v H1 e1 rm1 r1 h1 => ?_, ec⟩
  exact blQ r1 (fun b hb => q b M1 H1 e1 rm1 hb) h1
/-! ### and, or, not, if -/
variable {tA tB : TT1} {rest : List Expr}
def tAnd1 (t u : TT1) : TT1 := fun τ M Q E => t τ M (fun k M1 => if k = true then u τ M1 Q E else Q false M1) E
def tOr1 (t u : TT1) : TT1 := fun τ M Q E => t τ M (fun k M1 => if k = true then Q true M1 else u τ M1 Q E) E
def tNot1 (t : TT1) : TT1 := fun τ M Q E => t τ M (fun k M1 => Q (!k) M1) E
theorem pwa1 (ha : PT1 X x W a tA) : PW1 X x W (.BoolOp .And [a] pos) tA := pw_and1 ha
theorem pwo1 (ha : PT1 X x W a tA) : PW1 X x W (.BoolOp .Or [a] pos) tA := pw_or1 ha
theorem pwa (ha : PT1 X x W a tA) (hb : PW1 X x W (.BoolOp .And (b :: rest) pos) tB) : PW1 X x W (.BoolOp .And (a :: b :: rest) pos) (tAnd1 tA tB) := by
  refine imp_w (pw_and ha hb) fun σ H Q ⟨τ, M, Q', E', rs, rm, h, q, ec⟩ => ?_
  refine bindT rs rm h ec fun k M1 H1 e1 rs1 rm1 h1 => ?_
  cases k with
  | true => rw [if_pos rfl] at h1 ⊢; exact ⟨τ, M1, Q', E', rs1, rm1, h1, fun b M2 H2 e2 => q b M2 H2 (e1.trans e2), ec.ext e1⟩
  | false => rw [if_neg Bool.false_ne_true] at h1 ⊢; exact q _ M1 H1 e1 rm1 h1
theorem pwo (ha : PT1 X x W a tA) (hb : PW1 X x W (.BoolOp .Or (b :: rest) pos) tB) : PW1 X x W (.BoolOp .Or (a :: b :: rest) pos) (tOr1 tA tB) := by
  refine imp_w (pw_or ha hb) fun σ H Q ⟨τ, M, Q', E', rs, rm, h, q, ec⟩ => ?_
  refine bindT rs rm h ec fun k M1 H1 e1 rs1 rm1 h1 => ?_
  cases k with
  | true => rw [if_pos rfl] at h1 ⊢; exact q _ M1 H1 e1 rm1 h1
  | false => rw [if_neg Bool.false_ne_true] at h1 ⊢; exact ⟨τ, M1, Q', E', rs1, rm1, h1, fun b M2 H2 e2 => q b M2 H2 (e1.trans e2), ec.ext e1⟩
theorem ptw (h : PW1 X x W e tA) : PT1 X x W e tA := PW.pt h
theorem ptn (ha : PT1 X x W a tA) : PT1 X x W (.UnaryOp .Not a pos) (tNot1 tA) := by
  refine imp_t (pt_not ha) fun σ H Q ⟨τ, M, Q', E', rs, rm, h, q, ec⟩ => ?_
  exact bindT rs rm h ec fun k M1 H1 e1 rs1 rm1 h1 => q _ M1 H1 e1 rm1 h1
/-- as values -/
def tAndV1 (ta tb : TE1) : TE1 := fun τ M Q E => ta τ M (fun u M1 => match u with
  | .bl k => if k = true then tb τ M1 Q E else Q (.bl false) M1
  | _ => False) E
def tOrV1 (ta tb : TE1) : TE1 := fun τ M Q E => ta τ M (fun u M1 => match u with
  | .bl k => if k = true then Q (.bl true) M1 else tb τ M1 Q E
  | _ => False) E
def tNotV1 (ta : TE1) : TE1 := fun τ M Q E => ta τ M (fun u M1 => match u with
  | .bl k => Q (.bl (!k)) M1
  | _ => False) E
theorem pon1 {op : BoolOp} (h : PE1 X x W a ta) : PE1 X x W (.BoolOp op [a] pos) ta := pe_one h
theorem pan1 (ha : PE1 X x W a ta) (hb : PE1 X x W (.BoolOp .And (b :: rest) pos) tb) : PE1 X x W (.BoolOp .And (a :: b :: rest) pos) (tAndV1 ta tb) := by
  refine imp_e (pe_and ha hb) fun σ H Q ⟨τ, M, Q', E', rs, rm, h, q, ec⟩ => ?_
  refine bindE rs rm h ec fun u M1 v H1 e1 rs1 rm1 r1 h1 => ?_
  split at h1
  · rename_i k
    refine ⟨k, rep_bl r1, ?_⟩
    cases k with
    | true => rw [if_pos rfl] at h1 ⊢; exact ⟨τ, M1, Q', E', rs1, rm1, h1, q.ext e1, ec.ext e1⟩
    | false => rw [if_neg Bool.false_ne_true] at h1 ⊢; exact q _ M1 _ H1 e1 rm1 rep_bl_ h1
  · exact h1.elim
theorem por1 (ha : PE1 X x W a ta) (hb : PE1 X x W (.BoolOp .Or (b :: rest) pos) tb) : PE1 X x W (.BoolOp .Or (a :: b :: rest) pos) (tOrV1 ta tb) := by
  refine imp_e (pe_or ha hb) fun σ H Q ⟨τ, M, Q', E', rs, rm, h, q, ec⟩ => ?_
  refine bindE rs rm h ec fun u M1 v H1 e1 rs1 rm1 r1 h1 => ?_
  split at h1
  · rename_i k
    refine ⟨k, rep_bl r1, ?_⟩
    cases k with
    | true => rw [if_pos rfl] at h1 ⊢; exact q _ M1 _ H1 e1 rm1 rep_bl_ h1
    | false => rw [if_neg Bool.false_ne_true] at h1 ⊢; exact ⟨τ, M1, Q', E', rs1, rm1, h1, q.ext e1, ec.ext e1⟩
  · exact h1.elim
theorem pno1 (ha : PE1 X x W a ta) : PE1 X x W (.UnaryOp .Not a pos) (tNotV1 ta) := by
  refine imp_e (pe_not ha) fun σ H Q ⟨τ, M, Q', E', rs, rm, h, q, ec⟩ => ?_
  refine bindE rs rm h ec fun u M1 v H1 e1 rs1 rm1 r1 h1 => ?_
  split at h1
  · exact ⟨_, rep_bl r1, q _ M1 _ H1 e1 rm1 rep_bl_ h1⟩
  · exact h1.elim
/-- -a -/
def negI : T → Mp → TK → Prop
  | .int i, M, Q => Q (.int (-i)) M
  | _, _, _ => False
def tNeg1 (ta : TE1) : TE1 := fun τ M Q E => ta τ M (fun u M1 => negI u M1 Q) E
theorem pneg1 (ha : PE1 X x W a ta) : PE1 X x W (.UnaryOp .USub a pos) (tNeg1 ta) := by
  refine imp_e (pe_un un_neg ha) fun σ H Q ⟨τ, M, Q', E', rs, rm, h, q, ec⟩ => ?_
  refine bindE rs rm h ec fun u M1 v H1 e1 rs1 rm1 r1 h1 => ?_
  unfold negI at h1
  split at h1
  · exact ⟨_, rep_int r1, q _ M1 _ H1 e1 rm1 rep_int_ h1⟩
  · exact h1.elim
def tIf1 (t : TT1) (ta tb : TE1) : TE1 := fun τ M Q E => t τ M (fun k M1 => if k = true then ta τ M1 Q E else tb τ M1 Q E) E
theorem pif1 (hc : PT1 X x W c tA) (ha : PE1 X x W a ta) (hb : PE1 X x W b tb) : PE1 X x W (.IfExp c a b pos) (tIf1 tA ta tb) := by
  refine imp_e (pe_ifExp hc ha hb) fun σ H Q ⟨τ, M, Q', E', rs, rm, h, q, ec⟩ => ?_
  refine bindT rs rm h ec fun k M1 H1 e1 rs1 rm1 h1 => ?_
  cases k with
  | true => rw [if_pos rfl] at h1 ⊢; exact ⟨τ, M1, Q', E', rs1, rm1, h1, q.ext e1, ec.ext e1⟩
  | false => rw [if_neg Bool.false_ne_true] at h1 ⊢; exact ⟨τ, M1, Q', E', rs1, rm1, h1, q.ext e1, ec.ext e1⟩
/-! ### argument lists, displays -/
variable {es : List Expr} {tr : TA1}
def tNil1 : TA1 := fun _ M Q _ => Q [] M
def tCons1 (ta : TE1) (tr : TA1) : TA1 := fun τ M Q E => ta τ M (fun u M1 => tr τ M1 (fun us M2 => Q (u :: us) M2) E) E
theorem pan0 : PA1 X x W [] tNil1 := imp_a pa_nil fun σ H Q ⟨τ, M, Q', E', rs, rm, h, q, ec⟩ => q _ M _ H .refl rm RepL.nil h
theorem pac (ha : PE1 X x W e te) (hr : PA1 X x W es tr) (hs : starEach (e :: es) X.env = (false, eval e X.env) :: starEach es X.env := by rfl) : PA1 X x W (e :: es) (tCons1 te tr) := by
  refine imp_a (pa_cons ha hr hs) fun σ H Q ⟨τ, M, Q', E', rs, rm, h, q, ec⟩ => ?_
  refine bindE rs rm h ec fun u M1 v H1 e1 rs1 rm1 r1 h1 => ?_
  refine bindA rs1 rm1 h1 (ec.ext e1) fun us M2 vs H2 e2 rs2 rm2 r2 h2 => ?_
  exact q _ M2 _ H2 (e1.trans e2) rm2 (RepL.cons (r1.ext e2) r2) h2
end
end TL

set_option Elab.async false
set_option linter.all false
set_option maxRecDepth 100000
/-! TL4: what a def promises on trees; calls. -/
namespace TL
open PySem PySem.Spec PyProof.Rows L2
/-! ### letting go, freezing -/
def Sub (M0 M1 : Mp) : Prop := ∀ a o, M0 a = some o → M1 a = some o
theorem Sub.refl (M : Mp) : Sub M M := fun _ _ h => h
theorem Sub.free0 {M0 M1 : Mp} (h : Sub M0 M1) {a : Addr} (e : M1 a = none) : M0 a = none := by
  cases q : M0 a with
  | none => rfl
  | some o => rw [h a o q] at e; cases e
theorem Sub.upd {M : Mp} {p : Addr} {o : NK × List T} (h : M p = none) : Sub M (updM M p o) := fun a u e => by
  have : a ≠ p := fun z => by subst z; rw [h] at e; cases e
  rw [updM_ne this]; exact e
theorem Sub.trans {M0 M1 M2 : Mp} (a : Sub M0 M1) (b : Sub M1 M2) : Sub M0 M2 := fun c o h => b c o (a c o h)
mutual
inductive FrzV (M0 M1 : Mp) : T → T → Prop
  | refl (t : T) : FrzV M0 M1 t t
  | obj {a : Addr} {k : NK} {ts us : List T} (h : M1 a = some (k, ts)) (h0 : M0 a = none) (l : FrzL M0 M1 ts us) : FrzV M0 M1 (.obj a) (.node k us)
  | node {k : NK} {ts us : List T} (l : FrzL M0 M1 ts us) : FrzV M0 M1 (.node k ts) (.node k us)
inductive FrzL (M0 M1 : Mp) : List T → List T → Prop
  | nil : FrzL M0 M1 [] []
  | cons {t u : T} {ts us : List T} (h : FrzV M0 M1 t u) (l : FrzL M0 M1 ts us) : FrzL M0 M1 (t :: ts) (u :: us)
end
theorem FrzL.refl {M0 M1 : Mp} : ∀ ts : List T, FrzL M0 M1 ts ts
  | [] => .nil
  | t :: ts => .cons (.refl t) (FrzL.refl ts)
section
variable {x : Tx} {W : Wz} {H H1 : Hp} {M M0 M1 : Mp}
theorem Holds.sub {k : NK} {a : Addr} {vs : List V} (s : Sub M0 M1) (h : Holds x H M1 k a vs) : Holds x H M0 k a vs := by
  rcases h with ⟨m, nf, h⟩ | h
  · exact .inl ⟨s.free0 m, nf, h⟩
  · exact .inr h
mutual
theorem Rep.sub (s : Sub M0 M1) : ∀ {t : T} {v : V}, Rep x H M1 t v → Rep x H M0 t v
  | .non, _, h => h
  | .bl _, _, h => h
  | .int _, _, h => h
  | .str _, _, h => h
  | .ty _, _, h => h
  | .obj _, _, h => h
  | .node k ts, _, h => by
    unfold Rep at h ⊢
    obtain ⟨a, vs, rfl, hh, hl⟩ := h
    exact ⟨a, vs, rfl, hh.sub s, RepL.sub s hl⟩
theorem RepL.sub (s : Sub M0 M1) : ∀ {ts : List T} {vs : List V}, RepL x H M1 ts vs → RepL x H M0 ts vs
  | [], _, h => h
  | t :: ts, _, h => by
    unfold RepL at h ⊢
    obtain ⟨v, ws, rfl, h1, h2⟩ := h
    exact ⟨v, ws, rfl, h1.sub s, RepL.sub s h2⟩
end
theorem RelM.sub (s : Sub M0 M1) (r : RelM x H M1) : RelM x H M0 := ⟨fun a k ts e =>
  let ⟨vs, h, l⟩ := r.1 a k ts (s a _ e)
  ⟨vs, h, l.sub s⟩, fun a f => ⟨(r.2 a f).1, s.free0 (r.2 a f).2⟩⟩
theorem Ext.sub (s : Sub M0 M1) (e : Ext M H M1 H1) : Ext M H M0 H1 := fun a o m h => ⟨(e a o m h).1, s.free0 (e a o m h).2⟩
theorem RepX.sub {cls : Value} {d : Option Addr} {t : T} (s : Sub M0 M1) (r : RepX x H M1 cls d t) : RepX x H M0 cls d t := by
  unfold RepX at r ⊢
  split at r
  · obtain ⟨e, dd, vs, e1, e2, e3, e4, e5⟩ := r
    exact ⟨e, dd, vs, e1, s.free0 e2, e3, e4, e5.sub s⟩
  · exact r.elim
theorem HoldsM.frz {k : NK} {a : Addr} {vs : List V} (h : HoldsM x H k a vs) : HoldsH x H k a vs := by
  cases k with
  | lst => exact .inl h
  | dic ks => exact h
  | ins C ns => exact h
  | tup => exact h.elim
  | exc C ns => exact h.elim
mutual
theorem FrzV.ok (s : Sub M0 M1) (rm : RelM x H M1) : ∀ {t u : T} {v : V}, FrzV M0 M1 t u → Rep x H M1 t v → Rep x H M0 u v
  | _, _, _, .refl t, r => r.sub s
  | _, _, _, .obj (a := a) (k := k) (ts := ts) (us := us) h h0 l, r => by
    rw [rep_obj r]
    obtain ⟨vs, hm, hl⟩ := rm.1 a k ts h
    unfold Rep
    exact ⟨a, vs, rfl, .inl ⟨h0, (fun f => by rw [(rm.2 a f).2] at h; cases h), hm.frz⟩, FrzL.ok s rm l hl⟩
  | _, _, _, .node (k := k) (ts := ts) (us := us) l, r => by
    unfold Rep at r ⊢
    obtain ⟨a, vs, rfl, hh, hl⟩ := r
    exact ⟨a, vs, rfl, hh.sub s, FrzL.ok s rm l hl⟩
theorem FrzL.ok (s : Sub M0 M1) (rm : RelM x H M1) : ∀ {ts us : List T} {vs : List V}, FrzL M0 M1 ts us → RepL x H M1 ts vs → RepL x H M0 us vs
  | _, _, _, .nil, r => r.sub s
  | _, _, _, .cons h l, r => by
    unfold RepL at r ⊢
    obtain ⟨v, ws, rfl, r1, r2⟩ := r
    exact ⟨v, ws, rfl, FrzV.ok s rm h r1, FrzL.ok s rm l r2⟩
end
end
/-- a value handed back: what was made may be let go, or stay as it is -/
def retq (Q : TK) : TK := fun v M1 => ∃ v0 M0, Sub M0 M1 ∧ FrzV M0 M1 v v0 ∧ Q v0 M0
def exq (E : TK) : TK := fun v M1 => ∃ M0, Sub M0 M1 ∧ E v M0
theorem retq_id {Q : TK} {v : T} {M : Mp} (h : Q v M) : retq Q v M := ⟨v, M, Sub.refl M, .refl v, h⟩
theorem exq_id {Q : TK} {v : T} {M : Mp} (h : Q v M) : exq Q v M := ⟨M, Sub.refl M, h⟩
/-! ### promises -/
abbrev Sp1 := List T → Mp → TK → TK → Prop
def liftSp (x : Tx) (sp : Sp1) : Sp := fun vs H Q E => ∃ ts M Q' E', RepL x H M ts vs ∧ RelM x H M ∧ sp ts M Q' E' ∧ QC x M H Q' Q ∧ ∀ t M1 cls d H1, Ext M H M1 H1 → RelM x H1 M1 → RepX x H1 M1 cls d t → E' t M1 → E cls d H1
/-- what stands around a call, beside the layer's room: no text of a thing is under way -/
structure Ard (base : Heap) (A : Around) : Prop where
  g : A.guards = some []
  m : ∃ o es ep, base.get? sysModules = some o ∧ o.data = .dict es ep
structure FnG (P : Program) (w : World) (K : PySem.W.Frag) (mg : Str → Option Value) (base : Heap) (k : Nat) (f : Addr) (fd : FuncData) (ps : List Str) (sp : Sp) : Prop where
  len : ∀ vs H Q E, sp vs H Q E → vs.length = ps.length
  run : ∀ (A : Around) (outer : List Env) (s : Shared) (H : Hp) (args : Args) (us : List Value) (vs : List V) (Q : VK) (E : XK), Room k A → Ard base A → Env0 P w K mg base A outer s H → BindsTo s fd args (ps.zip us) → Vals vs us → sp vs H Q E →
    codeAny (model P w) A (.call (.ref f) args) (CR (CX P w) outer P w H s Q E) s
theorem FnG.mono {P : Program} {w : World} {K : PySem.W.Frag} {mg : Str → Option Value} {base : Heap} {j k : Nat} {f : Addr} {fd : FuncData} {ps : List Str} {sp : Sp} (F : FnG P w K mg base j f fd ps sp) (h : j ≤ k) : FnG P w K mg base k f fd ps sp :=
  ⟨F.len, fun A o s H a us vs Q E hr => F.run A o s H a us vs Q E (hr.mono h)⟩
theorem FnG.imp {P : Program} {w : World} {K : PySem.W.Frag} {mg : Str → Option Value} {base : Heap} {k : Nat} {f : Addr} {fd : FuncData} {ps : List Str} {sp sp' : Sp} (F : FnG P w K mg base k f fd ps sp) (h : ∀ vs H Q E, sp' vs H Q E → sp vs H Q E) : FnG P w K mg base k f fd ps sp' :=
  ⟨fun vs H Q E q => F.len vs H Q E (h vs H Q E q), fun A o s H a us vs Q E hr hg he hb r q => F.run A o s H a us vs Q E hr hg he hb r (h vs H Q E q)⟩
def endsOf (Q E : TK) : TEnds := ⟨fun _ M => retq Q .non M, retq Q, fun _ _ => False, fun _ _ => False, fun t _ M => exq E t M⟩
def startT (N : List Str) (ts : List T) : TSt := ts.map some ++ List.replicate (N.length - ts.length) none
section
variable {x : Tx} {H : Hp} {M : Mp}
theorem start_rel {N : List Str} {ts : List T} {vs : List V} {W : WX} (r : RepL x H M ts vs) : RelS x (Wz.of W) H M (start N vs) (startT N ts) := by
  have hl := r.length
  refine ⟨by unfold L2.start startT; simp [hl], fun i t e => ?_, trivial⟩
  unfold startT at e
  have hi : i < ts.length := by
    apply Classical.byContradiction
    intro hn
    have hn' : ts.length ≤ i := Nat.le_of_not_lt hn
    rw [List.getElem?_append_right (by simpa using hn')] at e
    rw [List.getElem?_replicate] at e
    split at e <;> cases e
  rw [List.getElem?_append_left (by simpa using hi)] at e
  rw [List.getElem?_map] at e
  cases q : ts[i]? with
  | none => rw [q] at e; cases e
  | some u =>
    rw [q] at e
    have e' : u = t := by simpa using e
    subst e'
    obtain ⟨v, h1, h2⟩ := r.get q
    refine ⟨v, ?_, h2⟩
    unfold L2.start
    rw [List.getElem?_append_left (by rw [List.length_map, ← hl]; exact hi), List.getElem?_map, h1]
    rfl
end
/-- a def of the text: its body's derivation, its promise read -/
theorem fnG_of {P : Program} {w : World} {K : PySem.W.Frag} {mg : Str → Option Value} {base : Heap} {k : Nat} {f : Addr} {name qual : Str} {params : Arguments} {body : List Stmt} {scope : Scope} {dV kV doc pm cdv ct oc : Value} {an od : Option Addr}
    {osl : Array (Option Value)} {N ps : List Str} {x : Tx} {sp : Sp1} (lk : K.lookup f = some ⟨oc, od, .func (PySem.W.fnOf name qual params body scope dV kV doc pm an cdv ct), osl⟩) (hcd : PySem.W.codeIn K cdv qual = true) (S : FnScope N ps scope) (t : TS1)
    (len : ∀ ts M Q E, sp ts M Q E → ts.length = ps.length)
    (der : ∀ (A : Around) (outer : List Env) (s : Shared) (H : Hp) (E : XK), Room k (A.deeper (envOfC qual scope s.heap.objs.size f cdv)) → Ard base (A.deeper (envOfC qual scope s.heap.objs.size f cdv)) →
      Takes (cxOf (CX P w) P w K mg base N qual scope f cdv A outer s H E) (Wz.of fun cls d _ H => E cls d H).W → PSs1 (cxOf (CX P w) P w K mg base N qual scope f cdv A outer s H E) x (Wz.of fun cls d _ H => E cls d H) body t)
    (rd : ∀ ts M Q E, sp ts M Q E → t (endsOf Q E) (startT N ts) M) :
    FnG P w K mg base (k + 1) f (PySem.W.fnOf name qual params body scope dV kV doc pm an cdv ct) ps (liftSp x sp) := by
  refine ⟨fun vs H Q E ⟨ts, M, Q', E', r, _, h, _⟩ => r.length ▸ len ts M Q' E' h, fun A outer s H args us vs Q E hr hg e0 hb r hsp => ?_⟩
  obtain ⟨ts, M, Q', E', rl, rm, h, qc, ec⟩ := hsp
  have hl : vs.length = ps.length := by rw [← rl.length]; exact len ts M Q' E' h
  have kin : K.In s.heap := e0.mod.kin.keeps fun b o z => (e0.bs b o z).1
  have nol : s.heap.NoLimit := e0.mod.nolimit.keeps fun b o z => (e0.bs b o z).1
  refine codeAny_call_function hr.depth (kin f _ lk) rfl S.co S.gen rfl (PySem.W.codeRec_of kin hcd) (hb _ _ _ _ (wpAny_newFunctionEnv_cells S.kind (fun y hy => ?_) fun env he s1 z => ?_))
  · rcases S.par y.1 (List.of_mem_zip (show (y.1, y.2) ∈ ps.zip us from hy)).1 with q | q
    · exact .inl q
    · exact .inr ⟨q, PySem.W.cellsFrom_some _ _ _ (.inl q)⟩
  subst he
  refine ⟨nol.keeps z.toInCall.keep, codeAny_func ?_⟩
  have tk : Takes (cxOf (CX P w) P w K mg base N qual scope f cdv A outer s H E) (Wz.of fun cls d _ H => E cls d H).W := takes_of rfl rfl rfl rfl
  have D := der A outer s H E (hr.deeper _) ⟨hg.g, hg.m⟩ tk
  have I : Inv (cxOf (CX P w) P w K mg base N qual scope f cdv A outer s H E) [] (start N vs) H s1 := inv_start S hr.hd e0 hl r z
  have body : liftS x (Wz.of fun cls d _ H => E cls d H) t { nx := fun _ H' => Q .non H', rt := Q } (start N vs) H := by
    refine ⟨startT N ts, M, endsOf Q' E', start_rel rl, rm, rd ts M Q' E' h, ⟨fun τ M1 σ H1 e rs rm1 q => ?_, fun v M1 u H1 e rm1 rp q => ?_, fun _ _ _ _ _ _ _ q => q.elim, fun _ _ _ _ _ _ _ q => q.elim, fun v τ M1 cls d σ H1 e rs rm1 rx q => ?_⟩⟩
    · obtain ⟨v0, M0, s0, fz, q⟩ := q
      exact qc v0 M0 .non H1 (e.sub s0) (rm1.sub s0) (fz.ok s0 rm1 rep_non_) q
    · obtain ⟨v0, M0, s0, fz, q⟩ := q
      exact qc v0 M0 u H1 (e.sub s0) (rm1.sub s0) (fz.ok s0 rm1 rp) q
    · obtain ⟨M0, s0, q⟩ := q
      exact ec v M0 cls d H1 (e.sub s0) (rm1.sub s0) (rx.sub s0) q
  refine wpAny_mono (D.run [] s1 (start N vs) H _ I body) (fun fl s' hs => ?_) fun e s' hs => hs
  cases fl with
  | ret u =>
    obtain ⟨v, σ', H', J, rv, q⟩ := hs
    exact ⟨v, H', J.os, J.bare, J.base, J.hok, rv, q⟩
  | next =>
    obtain ⟨σ', H', J, q⟩ := hs
    exact ⟨V.non, H', J.os, J.bare, J.base, J.hok, rfl, q⟩
  | brk => obtain ⟨_, _, _, q⟩ := hs; exact False.elim q
  | cont => obtain ⟨_, _, _, q⟩ := hs; exact False.elim q
/-! ### calls -/
section
variable {X : Cx} {x : Tx} {W : Wz} {k : Nat} {f : Addr} {fd : FuncData} {ps : List Str} {sp : Sp1} {y : Str} {p pos : Pos} {e : Expr} {es : List Expr} {t : TA1}
/-- f(..) with values -/
theorem run_fn1 {pins : List (Addr × Obj)} {σ : L2.St} {H : Hp} {s : Shared} {Q : VK} {us ds : List Value} {vs dvs : List V} (F : FnG X.prog X.w X.K X.mg X.base k f fd ps (liftSp x sp)) (hr : Room k X.A) (hg : Ard X.base X.A) (hb : Binds X.K fd ps ds) (hd : Vals dvs ds) (tk : Takes X W.W)
    (I : Inv X pins σ H s) (r : Vals vs us) (h : liftSp x sp (vs ++ dvs) H Q (fun cls d H1 => W.W cls d σ H1)) : wpAny (model X.prog X.w) X.A (call (.ref f) us) (EP X pins σ Q) X.xe s := by
  have r2 : Vals (vs ++ dvs) (us ++ ds) := r.append hd
  have hl : (us ++ ds).length = ps.length := r2.length ▸ F.len _ _ _ _ h
  refine wpAny_call (codeAny_mono (F.run X.A X.stack s H ⟨us, []⟩ (us ++ ds) (vs ++ dvs) Q _ hr hg I.env0 (hb s us I.kIn hl) r2 h) fun res s' hq => ?_)
  cases res with
  | error z => exact tk z s' (XE.of_call I (fun _ _ _ q => q) hq)
  | ok fl =>
    cases fl with
    | ret u => exact I.after hq
    | next => exact hq.elim
    | brk => exact hq.elim
    | cont => exact hq.elim
/-- f(e, ..), the defaults dts behind the written arguments -/
def tCall1 (sp : Sp1) (dts : List T) (t : TA1) : TE1 := fun τ M Q E => t τ M (fun us M1 => sp (us ++ dts) M1 Q E) E
theorem sp_lift {σ : L2.St} {τ : TSt} {H : Hp} {M : Mp} {Q' E' : TK} {Q : VK} {us : List T} {vs : List V} (rm : RelM x H M) (r : RepL x H M us vs) (h : sp us M Q' E') (q : QC x M H Q' Q) (ec : EC x W σ M H E') : liftSp x sp vs H Q (fun cls d H1 => W.W cls d σ H1) :=
  ⟨us, M, Q', E', r, rm, h, q, ec⟩
theorem pcall1 {dts : List T} {dvs : List V} {ds : List Value} (F : FnG X.prog X.w X.K X.mg X.base k f fd ps (liftSp x sp)) (hr : Room k X.A) (hA : Ard X.base X.A) (hm : X.mg y = some (.ref f)) (hk : PySem.W.keepIn X.K (.ref f) = true) (hb : Binds X.K fd ps ds) (hd : Vals dvs ds)
    (rd : ∀ H M, RepL x H M dts dvs) (tk : Takes X W.W) (ha : PA1 X x W (e :: es) t) (hg : Gl X y := by rfl) (hdb : (y == ("__debug__" : Str)) = false := by decide) (he : starEach (e :: es) X.env = (false, eval e X.env) :: starEach es X.env := by rfl)
    (hpl : (backTo pos (starEach es X.env)).any (·.1) = false := by rfl) : PE1 X x W (.Call (.Name y p) (e :: es) [] pos) (tCall1 sp dts t) := by
  refine ⟨fun pins s σ H Q I ⟨τ, M, Q', E', rs, rm, h, q, ec⟩ => ?_⟩
  refine wpAny_Call_Name_kw (ld_glob I hg hm ?_ hdb)
  have run := ha.run pos pins s σ H _ I (bindA rs rm h ec fun us M1 vs H1 e1 rs1 rm1 r1 h1 => (show liftSp x sp (vs ++ dvs) H1 Q (fun cls d H1 => W.W cls d σ H1) from sp_lift (τ := τ) rm1 (r1.append (rd H1 M1)) h1 (q.ext e1) (ec.ext e1)))
  exact PySem.W.callWith_K (h₀ := X.base) I.ok.mod.kin hk (thn run fun us s1 ⟨vs, H1, I1, r, q1⟩ => ⟨I1.kIn, run_fn1 F hr hA hb hd tk I1 r q1⟩) he hpl
theorem pcall0 {dts : List T} {dvs : List V} {ds : List Value} (F : FnG X.prog X.w X.K X.mg X.base k f fd ps (liftSp x sp)) (hr : Room k X.A) (hA : Ard X.base X.A) (hm : X.mg y = some (.ref f)) (hk : PySem.W.keepIn X.K (.ref f) = true) (hb : Binds X.K fd ps ds) (hd : Vals dvs ds)
    (rd : ∀ H M, RepL x H M dts dvs) (tk : Takes X W.W) (hg : Gl X y := by rfl) (hdb : (y == ("__debug__" : Str)) = false := by decide) : PE1 X x W (.Call (.Name y p) [] [] pos) (tCall1 sp dts tNil1) := by
  refine ⟨fun pins s σ H Q I ⟨τ, M, Q', E', rs, rm, h, q, ec⟩ => ?_⟩
  refine wpAny_Call_Name_kw (ld_glob I hg hm ?_ hdb)
  exact PySem.W.callWith_K0 I.kIn hk (run_fn1 (us := []) (vs := []) F hr hA hb hd tk I .nil (sp_lift (τ := τ) rm (rd H M) h q ec))
/-! ### built-in functions, built-in types -/
abbrev R1 := List T → Mp → TK → Prop
def Cr1 (X : Cx) (x : Tx) (f : Value) (r' : R1) : Prop :=
  ∃ r, CallR X f r ∧ ∀ (ts : List T) (vs : List V) (M : Mp) (H : Hp) (Q' : TK) (Q : VK), RelM x H M → RepL x H M ts vs → r' ts M Q' → QC x M H Q' Q → r vs H Q
def tCB1 (r : R1) (t : TA1) : TE1 := fun τ M Q E => t τ M (fun us M1 => r us M1 Q) E
theorem pcb1 {id : String} {r : R1} (hc : Cr1 X x (.builtin id) r) (hm : X.mg y = none) (hv : bootBuiltins y = some (.builtin id)) (ha : PA1 X x W (e :: es) t) (hg : Gl X y := by rfl) (hn : y ≠ "__name__" := by decide) (hdb : (y == ("__debug__" : Str)) = false := by decide)
    (he : starEach (e :: es) X.env = (false, eval e X.env) :: starEach es X.env := by rfl) (hpl : (backTo pos (starEach es X.env)).any (·.1) = false := by rfl) : PE1 X x W (.Call (.Name y p) (e :: es) [] pos) (tCB1 r t) := by
  obtain ⟨r0, h1, h2⟩ := hc
  refine imp_e (pe_callB h1 hg hm hv ha hn hdb he hpl) fun σ H Q ⟨τ, M, Q', E', rs, rm, h, q, ec⟩ => ?_
  exact bindA rs rm h ec fun us M1 vs H1 e1 rs1 rm1 r1 h3 => h2 us vs M1 H1 Q' Q rm1 r1 h3 (q.ext e1)
theorem pct1 {T' : String} {r : R1} (hc : Cr1 X x (.type T') r) (hm : X.mg y = none) (hv : bootBuiltins y = some (.type T')) (ha : PA1 X x W (e :: es) t) (hg : Gl X y := by rfl) (hn : y ≠ "__name__" := by decide) (hdb : (y == ("__debug__" : Str)) = false := by decide)
    (he : starEach (e :: es) X.env = (false, eval e X.env) :: starEach es X.env := by rfl) (hpl : (backTo pos (starEach es X.env)).any (·.1) = false := by rfl) : PE1 X x W (.Call (.Name y p) (e :: es) [] pos) (tCB1 r t) := by
  obtain ⟨r0, h1, h2⟩ := hc
  refine imp_e (pe_callTy h1 hg hm hv ha hn hdb he hpl) fun σ H Q ⟨τ, M, Q', E', rs, rm, h, q, ec⟩ => ?_
  exact bindA rs rm h ec fun us M1 vs H1 e1 rs1 rm1 r1 h3 => h2 us vs M1 H1 Q' Q rm1 r1 h3 (q.ext e1)
/-! ### displays -/
def tLst1 (t : TA1) : TE1 := fun τ M Q E => t τ M (fun us M1 => us.length ≤ sizeLine ∧ newL us M1 Q) E
def tTup1 (t : TA1) : TE1 := fun τ M Q E => t τ M (fun us M1 => us.length ≤ sizeLine ∧ Q (.node .tup us) M1) E
theorem plst1 (h : PA1 X x W es t) : PE1 X x W (.List es pos) (tLst1 t) := by
  refine imp_e (pe_lst h) fun σ H Q ⟨τ, M, Q', E', rs, rm, h, q, ec⟩ => ?_
  exact bindA rs rm h ec fun us M1 vs H1 e1 rs1 rm1 r1 h3 => ⟨r1.length ▸ h3.1, newL_ok rm1 r1 h3.2 (q.ext e1)⟩
theorem ptup1 {x1 : Nat} (h : PA1 X x W es t) : PE1 X x W (.Tuple es x1 pos) (tTup1 t) := by
  refine imp_e (pe_tup h) fun σ H Q ⟨τ, M, Q', E', rs, rm, h, q, ec⟩ => ?_
  exact bindA rs rm h ec fun us M1 vs H1 e1 rs1 rm1 r1 h3 => ⟨r1.length ▸ h3.1, newT_ok rm1 r1 h3.2 (q.ext e1)⟩
end
end TL

set_option Elab.async false
set_option linter.all false
set_option maxRecDepth 100000
/-! TL5: subscripts, slices, methods of built-in types, statements, loops. -/
namespace TL
open PySem PySem.Spec PyProof.Rows L2
section
variable {X : Cx} {x : Tx} {W : Wz} {H : Hp} {M : Mp} {a b c e o : Expr} {pos : Pos} {ta tb tc te to : TE1}
/-! ### subscripts -/
theorem RepL.atI {ts : List T} {vs : List V} {i : Int} {t : T} (r : RepL x H M ts vs) (h : L2.atI ts i = some t) : ∃ v, L2.atI vs i = some v ∧ Rep x H M t v := by
  unfold L2.atI at h ⊢
  rw [r.length] at h
  cases q : ixN vs.length i with
  | none => rw [q] at h; cases h
  | some j =>
    rw [q] at h
    obtain ⟨v, h1, h2⟩ := r.get (show ts[j]? = some t from h)
    exact ⟨v, h1, h2⟩
def ix1 : R21 := fun u v M Q => match v with
  | .int i => match u with
    | .str z => z.length ≤ sizeLine ∧ (match L2.atI z.cps.toList i with
      | some c => Q (.str ⟨#[c]⟩) M
      | none => False)
    | u => match rdS M u with
      | some ts => (match L2.atI ts i with
        | some t => Q t M
        | none => False)
      | none => False
  | _ => False
theorem atI_mem {α : Type} {xs : List α} {i : Int} {c : α} (h : L2.atI xs i = some c) : c ∈ xs := by
  unfold L2.atI at h
  cases q : ixN xs.length i with
  | none => rw [q] at h; cases h
  | some j => rw [q] at h; exact List.mem_of_getElem? (show xs[j]? = some c from h)
theorem pix1 (hK : X.K = x.K) (ha : PE1 X x W a ta) (hb : PE1 X x W b tb) (hs : PlainIx b := by exact fun _ _ => rfl) : PE1 X x W (.Subscript a b pos) (tOp1 ix1 ta tb) := by
  refine imp_e (pe_ix ix_seq ha hb hs) fun σ H Q ⟨τ, M, Q', E', rs, rm, h, q, ec⟩ => ?_
  refine bindE rs rm h ec fun u M1 v H1 e1 rs1 rm1 r1 h1 => ?_
  refine bindE rs1 rm1 h1 (ec.ext e1) fun w M2 y H2 e2 rs2 rm2 r2 h3 => ?_
  have r1' := r1.ext e2
  unfold ix1 at h3
  split at h3
  · rename_i i
    rw [rep_int r2]
    split at h3
    · rename_i z
      obtain ⟨hz, h4⟩ := h3
      split at h4
      · rename_i c hc
        refine .inr (.inr ⟨z, i, c, rep_str r1', rfl, hz, hc, ?_⟩)
        refine q _ M2 _ H2 (e1.trans e2) rm2 (rep_str_ (ok_sub (rep_ok r1') fun d hd => ?_)) h4
        have : d = c := by simpa using hd
        subst this
        exact atI_mem hc
      · exact h4.elim
    · split at h3
      · rename_i ts hts
        split at h3
        · rename_i t ht
          obtain ⟨p, vs, rfl, hq, rl⟩ := rdS_ok rm2 r1' hts
          obtain ⟨v', h5, h6⟩ := rl.atI ht
          rw [hK]
          rcases hq with hq | hq
          · exact .inl ⟨p, vs, i, v', rfl, rfl, hq, h5, q _ M2 _ H2 (e1.trans e2) rm2 h6 h3⟩
          · exact .inr (.inl ⟨p, vs, i, v', rfl, rfl, hq, h5, q _ M2 _ H2 (e1.trans e2) rm2 h6 h3⟩)
        · exact h3.elim
      · exact h3.elim
  · exact h3.elim
/-! ### slices -/
abbrev TO1 := TSt → Mp → (Option Int → Mp → Prop) → TK → Prop
def liftO (x : Tx) (W : Wz) (t : TO1) : TO := fun σ H Q => ∃ τ M Q' E', RelS x W H M σ τ ∧ RelM x H M ∧ t τ M Q' E' ∧ (∀ i M1 H1, Ext M H M1 H1 → RelM x H1 M1 → Q' i M1 → Q i H1) ∧ EC x W σ M H E'
def PO1 (X : Cx) (x : Tx) (W : Wz) (e : Option Expr) (t : TO1) : Prop := PO X e (liftO x W t)
theorem imp_o {e : Option Expr} {t u : TO} (h : PO X e t) (k : ∀ σ H Q, u σ H Q → t σ H Q) : PO X e u := ⟨fun p s σ H Q I q => h.run p s σ H Q I (k σ H Q q)⟩
def tNoP1 : TO1 := fun _ M Q _ => Q none M
def tPart1 (t : TE1) : TO1 := fun τ M Q E => t τ M (fun u M1 => match u with
  | .int i => Q (some i) M1
  | _ => False) E
theorem po0 : PO1 X x W none tNoP1 := imp_o po_none fun σ H Q ⟨τ, M, Q', E', rs, rm, h, q, ec⟩ => q _ M H .refl rm h
theorem pos1 (h : PE1 X x W e te) : PO1 X x W (some e) (tPart1 te) := imp_o (po_some h) fun σ H Q ⟨τ, M, Q', E', rs, rm, h, q, ec⟩ =>
  bindE rs rm h ec fun u M1 v H1 e1 rs1 rm1 r1 h1 => by
    split at h1
    · exact ⟨_, rep_int r1, q _ M1 H1 e1 rm1 h1⟩
    · exact h1.elim
def cutT (xs : List T) (lo hi : Option Int) : List T := (xs.drop (HT.sIx xs.length 0 lo)).take (HT.sIx xs.length xs.length hi - HT.sIx xs.length 0 lo)
theorem RepL.cut {ts : List T} {vs : List V} (lo hi : Option Int) (r : RepL x H M ts vs) : RepL x H M (cutT ts lo hi) (cutV vs lo hi) := by
  unfold cutT cutV
  rw [r.length]
  exact (r.drop _).take _
theorem cutS_mem {z : Str} {lo hi : Option Int} : ∀ c ∈ (cutS z lo hi).cps.toList, c ∈ z.cps.toList := by
  intro c hc
  unfold cutS at hc
  have := hc
  simp only [List.toList_toArray] at this
  first
    | exact List.mem_of_mem_drop (List.mem_of_mem_take this)
    | exact List.mem_of_mem_take (List.mem_of_mem_drop this)
/-- a list, a text; a tuple that is cut (the whole of it is the tuple itself) -/
def sl1 : T → Option Int → Option Int → Mp → TK → Prop := fun u lo hi M Q => match u with
  | .str z => z.length ≤ sizeLine ∧ Q (.str (cutS z lo hi)) M
  | .node .tup ts => ¬ (HT.sIx ts.length 0 lo = 0 ∧ HT.sIx ts.length ts.length hi = ts.length) ∧ Q (.node .tup (cutT ts lo hi)) M
  | u => match rdL M u with
    | some ts => newL (cutT ts lo hi) M Q
    | none => False
def tSl1 (te : TE1) (tl th : TO1) : TE1 := fun τ M Q E => te τ M (fun u M1 => tl τ M1 (fun l M2 => th τ M2 (fun h M3 => sl1 u l h M3 Q) E) E) E
theorem psl1 {lo hi : Option Expr} {tl th : TO1} {p2 : Pos} (hK : X.K = x.K) (he : PE1 X x W e te) (hl : PO1 X x W lo tl) (hh : PO1 X x W hi th) : PE1 X x W (.Subscript e (.Slice lo hi none p2) pos) (tSl1 te tl th) := by
  refine imp_e (pe_slice ((sl_list.or sl_tup).or sl_str) he hl hh) fun σ H Q ⟨τ, M, Q', E', rs, rm, h, q, ec⟩ => ?_
  refine bindE rs rm h ec fun u M1 v H1 e1 rs1 rm1 r1 h1 => ?_
  refine ⟨τ, M1, _, E', rs1, rm1, h1, fun l M2 H2 e2 rm2 h2 => ?_, ec.ext e1⟩
  refine ⟨τ, M2, _, E', rs1.ext e2, rm2, h2, fun l' M3 H3 e3 rm3 h3 => ?_, ec.ext (e1.trans e2)⟩
  have ee := (e1.trans e2).trans e3
  have r3 := r1.ext (e2.trans e3)
  unfold sl1 at h3
  split at h3
  · rename_i z
    exact .inr ⟨z, rep_str r3, h3.1, q _ M3 _ H3 ee rm3 (rep_str_ (ok_sub (rep_ok r3) cutS_mem)) h3.2⟩
  · rename_i ts
    obtain ⟨p, vs, rfl, hq, rl⟩ := rdU_ok (ts := ts) r3 rfl
    refine .inl (.inr ⟨p, vs, rfl, hK ▸ hq, ?_, newT_ok rm3 (rl.cut l l') h3.2 (q.ext ee)⟩)
    rw [← rl.length]; exact h3.1
  · split at h3
    · rename_i ts hts
      obtain ⟨p, vs, rfl, hq, rl⟩ := rdL_ok rm3 r3 hts
      exact .inl (.inl ⟨p, vs, rfl, hK ▸ hq, newL_ok rm3 (rl.cut l l') h3 (q.ext ee)⟩)
    · exact h3.elim
/-! ### methods of built-in types -/
abbrev Rm := T → List T → Mp → TK → Prop
def Mt1 (X : Cx) (x : Tx) (id : String) (r' : Rm) : Prop :=
  ∃ r, MtR X id r ∧ ∀ (u : T) (ts : List T) (v : V) (vs : List V) (M : Mp) (H : Hp) (Q' : TK) (Q : VK), RelM x H M → Rep x H M u v → RepL x H M ts vs → r' u ts M Q' → QC x M H Q' Q → r v vs H Q
/-- the receiver's type -/
def tyT (M : Mp) : String → T → Prop
  | "str", .str _ => True
  | "int", .int _ => True
  | "list", u => (rdL M u).isSome = true
  | _, _ => False
theorem tyT_ok {n : String} {u : T} {v : V} (rm : RelM x H M) (r : Rep x H M u v) (h : tyT M n u) : tyV x.K n v H := by
  unfold tyT at h
  split at h
  · rw [rep_str r]; rfl
  · rw [rep_int r]; rfl
  · cases q : rdL M u with
    | none => rw [q] at h; cases h
    | some ts =>
      obtain ⟨p, vs, rfl, hq, _⟩ := rdL_ok rm r q
      exact .inl ⟨rfl, _, hq⟩
  · exact h.elim
def tBM1 (n : String) (r : Rm) (to : TE1) (t : TA1) : TE1 := fun τ M Q E => to τ M (fun u M1 => tyT M1 n u ∧ t τ M1 (fun us M2 => r u us M2 Q) E) E
variable {T' id : String} {name : Str} {apos cpos : Pos} {es : List Expr} {t : TA1} {r : Rm}
theorem pbm1 (pa : PlainAttrs T') (slot : Slot T' name id) (hty : typeOf (.builtin id) = pure (.type "method_descriptor")) (hm : Mt1 X x id r) (hK : X.K = x.K) (ho : PE1 X x W o to) (ha : PA1 X x W (e :: es) t) (hbase : attributeBase o name X.env (eval o X.env) = eval o X.env := by rfl)
    (hfew : ((backTo cpos (starEach (e :: es) X.env)).all (fun x => !x.1) && (backToKw cpos (keywordEach [] X.env)).all (fun x => x.1.isSome) && decide ((e :: es).length + ([] : List Keyword).length + (if ([] : List Keyword).isEmpty then 0 else 1) < 30)) = true := by rfl)
    (hline : (apos.endLine == cpos.line) = true := by rfl) (hs : starEach (e :: es) X.env = (false, eval e X.env) :: starEach es X.env := by rfl) (hplain : (backTo cpos (starEach es X.env)).any (·.1) = false := by rfl) :
    PE1 X x W (.Call (.Attribute o name apos) (e :: es) [] cpos) (tBM1 T' r to t) := by
  obtain ⟨r0, h1, h2⟩ := hm
  refine imp_e (pe_bm pa slot hty h1 ho ha hbase hfew hline hs hplain) fun σ H Q ⟨τ, M, Q', E', rs, rm, h, q, ec⟩ => ?_
  refine bindE rs rm h ec fun u M1 v H1 e1 rs1 rm1 r1 h3 => ⟨hK ▸ tyT_ok rm1 r1 h3.1, ?_⟩
  refine bindA rs1 rm1 h3.2 (ec.ext e1) fun us M2 vs H2 e2 rs2 rm2 r2 h4 => ?_
  exact h2 u us v vs M2 H2 Q' Q rm2 (r1.ext e2) r2 h4 (q.ext (e1.trans e2))
theorem pbm0 (pa : PlainAttrs T') (slot : Slot T' name id) (hty : typeOf (.builtin id) = pure (.type "method_descriptor")) (hm : Mt1 X x id r) (hK : X.K = x.K) (ho : PE1 X x W o to) (hbase : attributeBase o name X.env (eval o X.env) = eval o X.env := by rfl)
    (hline : (apos.endLine == cpos.line) = true := by rfl) : PE1 X x W (.Call (.Attribute o name apos) [] [] cpos) (tBM1 T' r to tNil1) := by
  obtain ⟨r0, h1, h2⟩ := hm
  refine imp_e (pe_bm0 pa slot hty h1 ho hbase hline) fun σ H Q ⟨τ, M, Q', E', rs, rm, h, q, ec⟩ => ?_
  refine bindE rs rm h ec fun u M1 v H1 e1 rs1 rm1 r1 h3 => ⟨hK ▸ tyT_ok rm1 r1 h3.1, ?_⟩
  exact h2 u [] v [] M1 H1 Q' Q rm1 r1 RepL.nil h3.2 (q.ext e1)
end
/-! ### targets -/
abbrev TG1 := T → TSt → Mp → (TSt → Mp → Prop) → TK → Prop
abbrev TGs1 := List T → TSt → Mp → (TSt → Mp → Prop) → TK → Prop
section
variable (x : Tx) (W : Wz)
def liftG (t : TG1) : TG := fun v σ H Q => ∃ u τ M Q' E', Rep x H M u v ∧ RelS x W H M σ τ ∧ RelM x H M ∧ t u τ M Q' E' ∧ (∀ τ1 M1 σ1 H1, Ext M H M1 H1 → RelS x W H1 M1 σ1 τ1 → RelM x H1 M1 → Q' τ1 M1 → Q σ1 H1) ∧ EC x W σ M H E'
def liftGs (t : TGs1) : TGs := fun vs σ H Q => ∃ us τ M Q' E', RepL x H M us vs ∧ RelS x W H M σ τ ∧ RelM x H M ∧ t us τ M Q' E' ∧ (∀ τ1 M1 σ1 H1, Ext M H M1 H1 → RelS x W H1 M1 σ1 τ1 → RelM x H1 M1 → Q' τ1 M1 → Q σ1 H1) ∧ EC x W σ M H E'
end
def PG1 (X : Cx) (x : Tx) (W : Wz) (e : Expr) (t : TG1) : Prop := PG X e (liftG x W t)
def PGs1 (X : Cx) (x : Tx) (W : Wz) (es : List Expr) (t : TGs1) : Prop := PGs X es (liftGs x W t)
section
variable {X : Cx} {x : Tx} {W : Wz} {H : Hp} {M : Mp} {a b c e o : Expr} {pos : Pos} {ta tb tc te to ti : TE1}
theorem imp_g {e : Expr} {t u : TG} (h : PG X e t) (k : ∀ v σ H Q, u v σ H Q → t v σ H Q) : PG X e u := ⟨fun p s σ H v w Q I r q => h.run p s σ H v w Q I r (k v σ H Q q)⟩
theorem imp_gs {e : List Expr} {t u : TGs} (h : PGs X e t) (k : ∀ v σ H Q, u v σ H Q → t v σ H Q) : PGs X e u := ⟨fun p s σ H v w Q I r q => h.run p s σ H v w Q I r (k v σ H Q q)⟩
def gName1 (i : Nat) : TG1 := fun u τ M Q _ => Q (τ.set i (some u)) M
theorem pgn1 {i : Nat} {y : Str} (hN : X.N.Nodup) (hi : X.N[i]? = some y := by rfl) (hx : Loc X.env.scope y := by first | exact Or.inl rfl | exact Or.inr rfl) (hf : X.fn y = true ∨ X.env.scope.names.lookup y = some .local := by first | exact .inl rfl | exact .inr rfl) : PG1 X x W (.Name y pos) (gName1 i) :=
  imp_g (pg_name hN hi hx hf) fun v σ H Q ⟨u, τ, M, Q', E', r, rs, rm, h, q, _⟩ => q _ M _ H .refl (rs.set r i) rm h
def gNil1 : TGs1 := fun us τ M Q _ => match us with
  | [] => Q τ M
  | _ => False
/-- EC along a store: the exceptions of a store's own expressions are at the slots as they stand -/
def gCons1 (g : TG1) (gs : TGs1) : TGs1 := fun us τ M Q E => match us with
  | u :: r => g u τ M (fun τ1 M1 => gs r τ1 M1 Q (fun _ _ => False)) E
  | [] => False
theorem EC.never {σ : L2.St} : EC x W σ M H (fun _ _ => False) := fun _ _ _ _ _ _ _ _ h => h.elim
theorem pgs0 : PGs1 X x W [] gNil1 := imp_gs pgs_nil fun v σ H Q ⟨us, τ, M, Q', E', r, rs, rm, h, q, _⟩ => by
  unfold gNil1 at h
  split at h
  · exact ⟨RepL.nil_iff.mp r, q τ M σ H .refl rs rm h⟩
  · exact h.elim
theorem pgsc {es : List Expr} {g : TG1} {gs : TGs1} (h1 : PG1 X x W e g) (h2 : PGs1 X x W es gs) (hs : (assignEach (e :: es) X.env).map (·.2) = assign e X.env :: (assignEach es X.env).map (·.2) := by rfl) : PGs1 X x W (e :: es) (gCons1 g gs) := by
  refine imp_gs (pgs_cons h1 h2 hs) fun v σ H Q ⟨us, τ, M, Q', E', r, rs, rm, h, q, ec⟩ => ?_
  unfold gCons1 at h
  split at h
  · unfold RepL at r
    obtain ⟨v', ws, rfl, r1, r2⟩ := r
    refine ⟨v', ws, rfl, _, τ, M, _, E', r1, rs, rm, h, fun τ1 M1 σ1 H1 e1 rs1 rm1 h3 => ?_, ec⟩
    exact ⟨_, τ1, M1, Q', _, r2.ext e1, rs1, rm1, h3, fun τ2 M2 σ2 H2 e2 => q τ2 M2 σ2 H2 (e1.trans e2), EC.never⟩
  · exact h.elim
/-- a, b = a tuple of so many -/
def gTup1 (n : Nat) (gs : TGs1) : TG1 := fun u τ M Q E => match rdU u with
  | some us => us.length = n ∧ gs us τ M Q E
  | none => False
theorem pgt1 {es : List Expr} {k n : Nat} {gs : TGs1} (hc : X.calm = true) (hK : X.K = x.K) (h : PGs1 X x W es gs) (hn : (assignEach es X.env).length = n := by rfl) (hst : (assignEach es X.env).findIdx? (·.1) = none := by rfl) : PG1 X x W (.Tuple es k pos) (gTup1 n gs) := by
  refine imp_g (pg_tup hc h hn hst) fun v σ H Q ⟨u, τ, M, Q', E', r, rs, rm, h, q, ec⟩ => ?_
  unfold gTup1 at h
  split at h
  · rename_i us hus
    obtain ⟨p, vs, rfl, hq, rl⟩ := rdU_ok r hus
    exact ⟨p, vs, rfl, hK ▸ hq, rl.length ▸ h.1, us, τ, M, Q', E', rl, rs, rm, h.2, q, ec⟩
  · exact h.elim
/-- xs[i] = v, a list that may change -/
def setL1 : T → T → T → Mp → (Mp → Prop) → Prop := fun o i v M Q => match o, i with
  | .obj p, .int k => match M p with
    | some (.lst, ts) => (match ixN ts.length k with
      | some j => Q (updM M p (.lst, ts.set j v))
      | none => False)
    | _ => False
  | _, _ => False
def gSub1 (to ti : TE1) : TG1 := fun u τ M Q E => to τ M (fun o M1 => ti τ M1 (fun i M2 => setL1 o i u M2 fun M3 => Q τ M3) E) E
theorem pgsub1 {i : Expr} (ho : PE1 X x W o to) (hi : PE1 X x W i ti) (ha : ∀ v, assign (.Subscript o i pos) X.env v = (do
      let ov ← holding [v] (eval o X.env)
      let iv ← holding [v, ov] (eval i X.env)
      standAt pos
      holding [v, ov, iv] (setItem ov iv v)
      release [v, ov, iv] []) := by intro _; rfl) : PG1 X x W (.Subscript o i pos) (gSub1 to ti) := by
  refine imp_g (pg_sub ho hi set_list ha) fun v σ H Q ⟨u, τ, M, Q', E', r, rs, rm, h, q, ec⟩ => ?_
  refine bindE rs rm h ec fun w M1 v1 H1 e1 rs1 rm1 r1 h1 => ?_
  refine bindE rs1 rm1 h1 (ec.ext e1) fun z M2 v2 H2 e2 rs2 rm2 r2 h2 => ?_
  have r1' := r1.ext e2
  have r' := r.ext (e1.trans e2)
  unfold setL1 at h2
  split at h2
  · rename_i p k
    split at h2
    · rename_i ts hm
      split at h2
      · rename_i j hj
        obtain ⟨vs, h3, h4⟩ := rm2.1 p _ _ hm
        refine ⟨p, vs, k, j, rep_obj r1', rep_int r2, h3, by rw [← h4.length]; exact hj, ?_⟩
        have ew : Ext M2 H2 (updM M2 p (.lst, ts.set j u)) (upd H2 p (.lst (vs.set j v))) := Ext.write hm
        exact q τ _ σ _ ((e1.trans e2).trans ew) (rs2.ext ew) (rm2.write (k := .lst) (vs := vs.set j v) hm upd_same (h4.set j r')) h2
      · exact h2.elim
    · exact h2.elim
  · exact h2.elim
end
/-! ### statements -/
section
variable {X : Cx} {x : Tx} {W : Wz} {st : Stmt} {sts rest : List Stmt} {t u : TS1} {e c : Expr} {te : TE1} {tc : TT1} {g : TG1} {pos : Pos}
def dex (D : TEnds) (τ : TSt) : TK := fun t M => D.ex t τ M
def tNext1 : TS1 := fun D τ M => D.nx τ M
def tSeq1 (t u : TS1) : TS1 := fun D τ M => t { D with nx := u D } τ M
theorem ss0 : PSs1 X x W [] tNext1 := imp_ss pss_nil fun D σ H ⟨τ, M, D', rs, rm, h, sc⟩ => sc.nx τ M σ H .refl rs rm h
theorem ssc (h1 : PS1 X x W st t) (h2 : PSs1 X x W rest u) : PSs1 X x W (st :: rest) (tSeq1 t u) := imp_ss (pss_cons h1 h2) fun D σ H ⟨τ, M, D', rs, rm, h, sc⟩ =>
  ⟨τ, M, { D' with nx := u D' }, rs, rm, h, ⟨fun τ1 M1 σ1 H1 e1 rs1 rm1 h1 => ⟨τ1, M1, D', rs1, rm1, h1, sc.ext e1⟩, sc.rt, sc.bk, sc.ct, sc.ex⟩⟩
theorem ss1 (h1 : PS1 X x W st t) : PSs1 X x W [st] t := pss_one h1
theorem spass : PS1 X x W (.Pass pos) tNext1 := imp_s ps_pass fun D σ H ⟨τ, M, D', rs, rm, h, sc⟩ => sc.nx τ M σ H .refl rs rm h
def tBk1 : TS1 := fun D τ M => D.bk τ M
def tCt1 : TS1 := fun D τ M => D.ct τ M
theorem sbrk : PS1 X x W (.Break pos) tBk1 := imp_s ps_break fun D σ H ⟨τ, M, D', rs, rm, h, sc⟩ => sc.bk τ M σ H .refl rs rm h
theorem scont : PS1 X x W (.Continue pos) tCt1 := imp_s ps_continue fun D σ H ⟨τ, M, D', rs, rm, h, sc⟩ => sc.ct τ M σ H .refl rs rm h
theorem sdoc {y : Str} {j : Nat} {pos' : Pos} : PS1 X x W (.Expr (.Constant (.str y) j pos) pos') tNext1 := imp_s ps_doc fun D σ H ⟨τ, M, D', rs, rm, h, sc⟩ => sc.nx τ M σ H .refl rs rm h
def tDrop1 (te : TE1) : TS1 := fun D τ M => te τ M (fun _ M1 => D.nx τ M1) (dex D τ)
theorem sexpr (he : PE1 X x W e te) (hs : swapsWith e none pos.line X.env = pure false := by rfl) : PS1 X x W (.Expr e pos) (tDrop1 te) := imp_s (ps_expr he hs) fun D σ H ⟨τ, M, D', rs, rm, h, sc⟩ =>
  bindE rs rm h (sc.ec rs) fun v M1 w H1 e1 rs1 rm1 r1 h1 => sc.nx τ M1 σ H1 e1 rs1 rm1 h1
def tRet1 (te : TE1) : TS1 := fun D τ M => te τ M D.rt (dex D τ)
theorem sret (he : PE1 X x W e te) : PS1 X x W (.Return (some e) pos) (tRet1 te) := imp_s (ps_ret he) fun D σ H ⟨τ, M, D', rs, rm, h, sc⟩ =>
  bindE rs rm h (sc.ec rs) fun v M1 w H1 e1 rs1 rm1 r1 h1 => sc.rt v M1 w H1 e1 rm1 r1 h1
def tRetN1 : TS1 := fun D _ M => D.rt .non M
theorem sretn : PS1 X x W (.Return none pos) tRetN1 := imp_s ps_retN fun D σ H ⟨τ, M, D', rs, rm, h, sc⟩ => sc.rt _ M _ H .refl rm rep_non_ h
def tIfS1 (c : TT1) (t u : TS1) : TS1 := fun D τ M => c τ M (fun b M1 => if b = true then t D τ M1 else u D τ M1) (dex D τ)
theorem sif {a b : List Stmt} (hc : PT1 X x W c tc) (ha : PSs1 X x W a t) (hb : PSs1 X x W b u) : PS1 X x W (.If c a b pos) (tIfS1 tc t u) := imp_s (ps_if hc ha hb) fun D σ H ⟨τ, M, D', rs, rm, h, sc⟩ =>
  bindT rs rm h (sc.ec rs) fun k M1 H1 e1 rs1 rm1 h1 => by
    cases k with
    | true => rw [if_pos rfl] at h1 ⊢; exact ⟨τ, M1, D', rs1, rm1, h1, sc.ext e1⟩
    | false => rw [if_neg Bool.false_ne_true] at h1 ⊢; exact ⟨τ, M1, D', rs1, rm1, h1, sc.ext e1⟩
def tAsg1 (te : TE1) (g : TG1) : TS1 := fun D τ M => te τ M (fun u M1 => g u τ M1 D.nx (dex D τ)) (dex D τ)
theorem asg_lift {tg : TE} {D : Ends} {σ : L2.St} {H : Hp} (h : liftS x W (tAsg1 te g) D σ H) : tAsg (liftE x W te) (liftG x W g) D σ H := by
  obtain ⟨τ, M, D', rs, rm, h, sc⟩ := h
  exact bindE rs rm h (sc.ec rs) fun v M1 w H1 e1 rs1 rm1 r1 h1 => ⟨v, τ, M1, D'.nx, _, r1, rs1, rm1, h1, fun τ1 M2 σ1 H2 e2 => sc.nx τ1 M2 σ1 H2 (e1.trans e2), (sc.ec rs).ext e1⟩
theorem sset {i : Nat} {y : Str} {pos' : Pos} (hN : X.N.Nodup) (he : PE1 X x W e te) (hi : X.N[i]? = some y := by rfl) (hx : Loc X.env.scope y := by first | exact Or.inl rfl | exact Or.inr rfl) (hs : swapsWith e (some (.Name y pos')) pos.line X.env = pure false := by rfl)
    (hf : X.fn y = true ∨ X.env.scope.names.lookup y = some .local := by first | exact .inl rfl | exact .inr rfl) : PS1 X x W (.Assign [.Name y pos'] e pos) (tAsg1 te (gName1 i)) :=
  imp_s (ps_set hN hi hx he hs hf) fun D σ H ⟨τ, M, D', rs, rm, h, sc⟩ => bindE rs rm h (sc.ec rs) fun v M1 w H1 e1 rs1 rm1 r1 h1 => sc.nx _ M1 _ H1 e1 (rs1.set r1 i) rm1 h1
theorem sasg {tg : Expr} (he : PE1 X x W e te) (hg : PG1 X x W tg g) (hs : swapsWithSole [tg] e pos.line X.env = pure false := by rfl) (hw : swappedStores [tg] e X.env = pure none := by rfl) (h1 : (assignEach [tg] X.env).map (·.2) = [assign tg X.env] := by rfl) :
    PS1 X x W (.Assign [tg] e pos) (tAsg1 te g) := imp_s (ps_asg he hg hs hw h1) fun D σ H h => asg_lift (tg := liftE x W te) h
def tNever1 : TS1 := fun _ _ _ => False
/-- x op= e -/
def tAug1 (i : Nat) (te : TE1) (r : R21) : TS1 := fun D τ M => match τ[i]? with
  | some (some u) => te τ M (fun v M1 => r u v M1 fun z M2 => D.nx (τ.set i (some z)) M2) (dex D τ)
  | _ => False
theorem saug {i : Nat} {y : Str} {op : Operator} {r : R21} {pos' : Pos} (hN : X.N.Nodup) (he : PE1 X x W e te) (ho : Op1 X x (inplaceOp op) r) (hi : X.N[i]? = some y := by rfl) (hx : Loc X.env.scope y := by first | exact Or.inl rfl | exact Or.inr rfl)
    (hf : X.fn y = true ∨ X.env.scope.names.lookup y = some .local := by first | exact .inl rfl | exact .inr rfl) : PS1 X x W (.AugAssign (.Name y pos') op e pos) (tAug1 i te r) := by
  obtain ⟨r0, h1, h2⟩ := ho
  refine imp_s (ps_aug hN hi hx he (ti := r0) (fun pins s σ H p q v u Q I r1 r2 h => h1 pins s σ H p q v u Q I r1 r2 h) hf) fun D σ H ⟨τ, M, D', rs, rm, h, sc⟩ => ?_
  unfold tAug1 at h
  split at h
  · rename_i w hw
    obtain ⟨v, e1, rv⟩ := rs.2.1 i w hw
    refine ⟨v, e1, bindE rs rm h (sc.ec rs) fun z M1 y H1 e1 rs1 rm1 r1 h3 => ?_⟩
    refine h2 w z v y M1 H1 _ _ rm1 (rv.ext e1) r1 h3 fun t' M2 v2 H2 e2 rm2 r3 h4 => ?_
    exact sc.nx _ M2 _ H2 (e1.trans e2) ((rs1.ext e2).set r3 i) rm2 h4
  · exact h.elim
end
end TL

set_option Elab.async false
set_option linter.all false
set_option maxRecDepth 100000
/-! TL6: what is walked; for, while, list comprehensions. -/
namespace TL
open PySem PySem.Spec PyProof.Rows L2
def Tx.wF (x : Tx) (F : Addr → Prop) : Tx := ⟨x.K, x.cd, F⟩
/-- only what did not stand is hidden besides -/
def Adds (x : Tx) (H : Hp) (F : Addr → Prop) : Prop := ∀ a o, H a = some o → F a → x.F a
theorem Adds.self {x : Tx} {H : Hp} : Adds x H x.F := fun _ _ _ h => h
/-- the walk J yields the items, one a turn, while S stands -/
def WalkT (x : Tx) (J : It) (items : List T) (S : Mp → Prop) (M : Mp) (H : Hp) : Prop :=
  ∀ (F : Addr → Prop), Adds x H F → ∀ (i : Nat) M1 H1, Ext M H M1 H1 → RelM (x.wF F) H1 M1 → S M1 → (∀ t, items[i]? = some t → J.go i H1 ∧ ∀ v H2, J.yld i H1 v H2 → Ext M1 H1 M1 H2 ∧ RelM (x.wF F) H2 M1 ∧ Rep (x.wF F) H2 M1 t v) ∧ (items.length ≤ i → J.stop i H1)
section
variable {x : Tx} {H : Hp} {M : Mp} {F : Addr → Prop}
theorem HoldsH.some {k : NK} {a : Addr} {vs : List V} (h : HoldsH x H k a vs) : ∃ o, H a = some o := by
  cases k with
  | tup => exact ⟨_, h⟩
  | lst => rcases h with h | ⟨_, h⟩ <;> exact ⟨_, h⟩
  | dic ks => exact ⟨_, h.2⟩
  | ins C ns => obtain ⟨_, dx, h⟩ := h; exact ⟨_, h⟩
  | exc C ns => exact h.elim
theorem HoldsH.wF {k : NK} {a : Addr} {vs : List V} (h : HoldsH x H k a vs) : HoldsH (x.wF F) H k a vs := by cases k <;> exact h
theorem HoldsK.wF {k : NK} {a : Addr} {vs : List V} (h : HoldsK x k a vs) : HoldsK (x.wF F) k a vs := by cases k <;> exact h
mutual
theorem Rep.wF (hF : Adds x H F) : ∀ {t : T} {v : V}, Rep x H M t v → Rep (x.wF F) H M t v
  | .non, _, h => h
  | .bl _, _, h => h
  | .int _, _, h => h
  | .str _, _, h => h
  | .ty _, _, h => h
  | .obj _, _, h => h
  | .node k ts, _, h => by
    unfold Rep at h ⊢
    obtain ⟨a, vs, rfl, hh, hl⟩ := h
    refine ⟨a, vs, rfl, ?_, RepL.wF hF hl⟩
    rcases hh with ⟨m, nf, hh⟩ | hh
    · obtain ⟨o, e⟩ := hh.some
      exact .inl ⟨m, fun f => nf (hF a o e f), hh.wF⟩
    · exact .inr hh.wF
theorem RepL.wF (hF : Adds x H F) : ∀ {ts : List T} {vs : List V}, RepL x H M ts vs → RepL (x.wF F) H M ts vs
  | [], _, h => h
  | t :: ts, _, h => by
    unfold RepL at h ⊢
    obtain ⟨v, ws, rfl, h1, h2⟩ := h
    exact ⟨v, ws, rfl, h1.wF hF, RepL.wF hF h2⟩
end
end
abbrev TI1 := TSt → Mp → (List T → (Mp → Prop) → Mp → Prop) → TK → Prop
def liftI (x : Tx) (W : Wz) (t : TI1) : TI := fun σ H R => ∃ τ M R' E', RelS x W H M σ τ ∧ RelM x H M ∧ t τ M R' E' ∧
  (∀ J items S M1 H1, Ext M H M1 H1 → RelM x H1 M1 → WalkT x J items S M1 H1 → R' items S M1 → R J H1) ∧ EC x W σ M H E'
def PI1 (X : Cx) (x : Tx) (W : Wz) (tg iter : Expr) (t : TI1) : Prop := PI X tg iter (liftI x W t)
theorem imp_i {X : Cx} {tg e : Expr} {t u : TI} (h : PI X tg e t) (k : ∀ σ H R, u σ H R → t σ H R) : PI X tg e u := ⟨fun p s σ H R I q => h.run p s σ H R I (k σ H R q)⟩
theorem PI.or {X : Cx} {tg e : Expr} {t u : TI} (h : PI X tg e t) (g : PI X tg e u) : PI X tg e (fun σ H R => t σ H R ∨ u σ H R) := ⟨fun p s σ H R I q => q.elim (h.run p s σ H R I) (g.run p s σ H R I)⟩
section
variable {X : Cx} {x : Tx} {W : Wz} {tg e : Expr} {te : TE1} {ta : TA1} {p pos : Pos}
theorem walk_list {H : Hp} {M : Mp} {u : T} {ts : List T} {a : Addr} (hl : ∀ F, Adds x H F → ∀ M1 H1, Ext M H M1 H1 → RelM (x.wF F) H1 M1 → rdS M1 u = some ts → ∃ vs, SqL x.K H1 a vs ∧ RepL (x.wF F) H1 M1 ts vs) : WalkT x (Itl x.K a) ts (fun M1 => rdS M1 u = some ts) M H := by
  intro F hF i M1 H1 e rm s
  obtain ⟨vs, hq, rl⟩ := hl F hF M1 H1 e rm s
  refine ⟨fun t ht => ?_, fun hi => ⟨vs, hq, rl.length ▸ hi⟩⟩
  obtain ⟨v, h1, h2⟩ := rl.get ht
  refine ⟨⟨vs, v, hq, h1⟩, fun v' H2 ⟨e2, h3⟩ => ?_⟩
  subst e2
  have := h3 vs hq
  rw [h1] at this
  cases this
  exact ⟨.refl, rm, h2⟩
theorem walk_tup {H : Hp} {M : Mp} {u : T} {ts : List T} {a : Addr} (hl : ∀ F, Adds x H F → ∀ M1 H1, Ext M H M1 H1 → RelM (x.wF F) H1 M1 → rdS M1 u = some ts → ∃ vs, SqT x.K H1 a vs ∧ RepL (x.wF F) H1 M1 ts vs) : WalkT x (Itt x.K a) ts (fun M1 => rdS M1 u = some ts) M H := by
  intro F hF i M1 H1 e rm s
  obtain ⟨vs, hq, rl⟩ := hl F hF M1 H1 e rm s
  refine ⟨fun t ht => ?_, fun hi => ⟨vs, hq, rl.length ▸ hi⟩⟩
  obtain ⟨v, h1, h2⟩ := rl.get ht
  refine ⟨⟨vs, v, hq, h1⟩, fun v' H2 ⟨e2, h3⟩ => ?_⟩
  subst e2
  have := h3 vs hq
  rw [h1] at this
  cases this
  exact ⟨.refl, rm, h2⟩
theorem rdS_of {M : Mp} {u : T} {ts : List T} (h : rdL M u = some ts) : rdS M u = some ts := by
  unfold rdL at h; unfold rdS
  split at h
  · exact h
  · exact h
  · cases h
def signsT (z : Str) : List T := z.cps.toList.map fun c => .str ⟨#[c]⟩
/-- what stands of a thing that is walked -/
def stay (M : Mp) (u : T) (ts : List T) : Prop := rdS M u = some ts
/-- a list, a tuple, a text -/
def iSq1 (te : TE1) : TI1 := fun τ M R E => te τ M (fun u M1 => match u with
  | .str z => R (signsT z) (fun _ => True) M1
  | u => match rdS M1 u with
    | some ts => R ts (fun M2 => stay M2 u ts) M1
    | none => False) E
theorem walk_str {z : Str} {H : Hp} {M : Mp} (hz : PyData.strOk z = true) : WalkT x (Its z) (signsT z) (fun _ => True) M H := by
  intro F hF i M1 H1 e rm _
  have hl : (signsT z).length = z.cps.size := by unfold signsT; simp
  refine ⟨fun t ht => ?_, fun hi => by show z.cps.size ≤ i; omega⟩
  unfold signsT at ht
  rw [List.getElem?_map] at ht
  cases q : z.cps.toList[i]? with
  | none => rw [q] at ht; cases ht
  | some c =>
    rw [q] at ht
    have ht' : T.str ⟨#[c]⟩ = t := by simpa using ht
    subst ht'
    have hi : i < z.cps.size := by
      have := (List.getElem?_eq_some_iff.mp q).1
      simpa using this
    refine ⟨hi, fun v H2 ⟨e2, c', h3, h4⟩ => ?_⟩
    subst e2
    have : c' = c := by
      rw [← Array.getElem?_toList] at h3
      rw [q] at h3; cases h3; rfl
    subst this
    rw [h4]
    refine ⟨.refl, rm, rep_str_ ?_⟩
    rw [ok_iff] at hz ⊢
    intro d hd
    have : d = c' := by simpa using hd
    subst this
    exact hz d (List.mem_of_getElem? q)
/-- at the list or the tuple itself -/
theorem sq_walks {H : Hp} {M : Mp} {u : T} {v : V} {ts : List T} (rm : RelM x H M) (r : Rep x H M u v) (h : rdS M u = some ts) :
    ∃ a vs, v = .ref a ∧ ((SqL x.K H a vs ∧ WalkT x (Itl x.K a) ts (fun M2 => stay M2 u ts) M H) ∨ (SqT x.K H a vs ∧ WalkT x (Itt x.K a) ts (fun M2 => stay M2 u ts) M H)) := by
  cases q : rdL M u with
  | some us =>
    obtain ⟨a, vs, rfl, hq, rl⟩ := rdL_ok rm r q
    have hu : us = ts := by
      have := rdS_of q
      rw [h] at this; cases this; rfl
    subst hu
    refine ⟨a, vs, rfl, .inl ⟨hq, walk_list fun F hF M1 H1 e rm1 s => ?_⟩⟩
    have r1 := (r.wF hF).ext e
    have q1 : rdL M1 u = some us := by
      cases u with
      | obj b =>
        unfold rdS at s; unfold rdL
        exact s
      | node k l =>
        unfold rdL at q ⊢
        cases k <;> first | exact q | cases q
      | non => unfold rdL at q; cases q
      | bl _ => unfold rdL at q; cases q
      | int _ => unfold rdL at q; cases q
      | str _ => unfold rdL at q; cases q
      | ty _ => unfold rdL at q; cases q
    obtain ⟨a', vs', e1, hq', rl'⟩ := rdL_ok rm1 r1 q1
    cases e1
    exact ⟨vs', hq', rl'⟩
  | none =>
    have hu : rdU u = some ts := by
      unfold rdS at h; unfold rdL at q
      split at h
      · cases q
      · cases h; rfl
      · simp only at q; rw [h] at q; cases q
      · cases h
    obtain ⟨a, vs, rfl, hq, rl⟩ := rdU_ok r hu
    refine ⟨a, vs, rfl, .inr ⟨hq, walk_tup fun F hF M1 H1 e rm1 s => ?_⟩⟩
    obtain ⟨a', vs', e1, hq', rl'⟩ := rdU_ok ((r.wF hF).ext e) hu
    cases e1
    exact ⟨vs', hq', rl'⟩
theorem pil1 (hK : X.K = x.K) (he : PE1 X x W e te) : PI1 X x W tg e (iSq1 te) := by
  refine ⟨fun pins s σ H R I ⟨τ, M, R', E', rs, rm, h, q, ec⟩ => ?_⟩
  refine thn (he.run pins s σ H (fun v H1 => (∃ y, v = .str y ∧ R (Its y) H1) ∨ (∃ a vs, v = .ref a ∧ SqL X.K H1 a vs ∧ R (Itl X.K a) H1) ∨ ∃ a vs, v = .ref a ∧ SqT X.K H1 a vs ∧ R (Itt X.K a) H1) I ?_) fun v s1 ⟨y, H1, I1, r1, q1⟩ => ?_
  · refine bindE rs rm h ec fun u M1 v H1 e1 rs1 rm1 r1 h1 => ?_
    split at h1
    · rename_i z
      exact .inl ⟨z, rep_str r1, q _ _ _ M1 H1 e1 rm1 (walk_str (rep_ok r1)) h1⟩
    · split at h1
      · rename_i ts hts
        obtain ⟨a, vs, rfl, ⟨hq, w⟩ | ⟨hq, w⟩⟩ := sq_walks rm1 r1 hts
        · exact .inr (.inl ⟨a, vs, rfl, hK ▸ hq, hK ▸ q _ _ _ M1 H1 e1 rm1 w h1⟩)
        · exact .inr (.inr ⟨a, vs, rfl, hK ▸ hq, hK ▸ q _ _ _ M1 H1 e1 rm1 w h1⟩)
      · exact h1.elim
  · rcases q1 with ⟨z, rfl, q1⟩ | ⟨a, vs, rfl, hq, q1⟩ | ⟨a, vs, rfl, hq, q1⟩
    · obtain ⟨t, rfl⟩ := r1
      cases ha : z.cps.all (· < 128)
      · exact wpAny_pyIter_wide ha (pi_one (tk := s1.toks) I1 _ (turn_str _ z t "str_iterator" (.inr rfl)) ⟨_, Heap.get?_push_size _ rfl, rfl, rfl⟩ q1)
      · exact wpAny_pyIter_ascii ha (pi_one (tk := s1.toks) I1 _ (turn_str _ z t "str_ascii_iterator" (.inl rfl)) ⟨_, Heap.get?_push_size _ rfl, rfl, rfl⟩ q1)
    · cases r1
      obtain ⟨its, rv, p, hz⟩ := I1.list hq
      exact wpAny_pyIter_list p.isList (pi_one (tk := s1.toks) I1 _ (turn_list a _) ⟨_, Heap.get?_push_size _ rfl, rfl, rfl⟩ q1)
    · cases r1
      obtain ⟨its, rv, p, hz⟩ := I1.tuple hq
      exact wpAny_pyIter_tuple (show s1.heap.IsTuple a its.toArray from p) (pi_one (tk := s1.toks) I1 _ (turn_tuple a _) ⟨_, Heap.get?_push_size _ rfl, rfl, rfl⟩ q1)
/-! ### range -/
def rngT (lo : Int) (n : Nat) : List T := (List.range n).map fun i => .int (lo + (i : Nat))
theorem rngT_length (lo : Int) (n : Nat) : (rngT lo n).length = n := by unfold rngT; simp
theorem rngT_get {lo : Int} {n i : Nat} {t : T} (h : (rngT lo n)[i]? = some t) : i < n ∧ t = .int (lo + i) := by
  unfold rngT at h
  rw [List.getElem?_map] at h
  by_cases hi : i < n
  · rw [List.getElem?_range hi] at h
    refine ⟨hi, ?_⟩
    have : T.int (lo + i) = t := by simpa using h
    exact this.symm
  · rw [List.getElem?_eq_none (by simpa using Nat.le_of_not_lt hi)] at h; cases h
theorem walk_rng {lo : Int} {n : Nat} {H : Hp} {M : Mp} : WalkT x (Itr lo n) (rngT lo n) (fun _ => True) M H := by
  intro F hF i M1 H1 e rm _
  refine ⟨fun t ht => ?_, fun hi => by rw [rngT_length] at hi; exact hi⟩
  obtain ⟨hi, rfl⟩ := rngT_get ht
  exact ⟨hi, fun v H2 ⟨e2, e3⟩ => by subst e2; rw [e3]; exact ⟨.refl, rm, rep_int_⟩⟩
def iRgA (ta : TA1) : TI1 := fun τ M R E => ta τ M (fun us M1 => match us with
  | [.int j] => (-(2 ^ 62) ≤ j ∧ j < 2 ^ 62) ∧ R (rngT 0 j.toNat) (fun _ => True) M1
  | _ => False) E
def iRgB (ta : TA1) : TI1 := fun τ M R E => ta τ M (fun us M1 => match us with
  | [.int i, .int j] => (-(2 ^ 62) ≤ i ∧ i < 2 ^ 62 ∧ -(2 ^ 62) ≤ j ∧ j < 2 ^ 62) ∧ R (rngT i (j - i).toNat) (fun _ => True) M1
  | _ => False) E
theorem pir1 {a : Expr} (hm : X.mg "range" = none) (ha : PA1 X x W [a] ta) (hg : Gl X "range" := by rfl) (hs : starEach [a] X.env = [(false, eval a X.env)] := by rfl) : PI1 X x W tg (.Call (.Name "range" p) [a] [] pos) (iRgA ta) := by
  refine imp_i (pi_range1 hg hm ha hs) fun σ H R ⟨τ, M, R', E', rs, rm, h, q, ec⟩ => ?_
  refine bindA rs rm h ec fun us M1 vs H1 e1 rs1 rm1 r1 h2 => ?_
  split at h2
  · rename_i j
    unfold RepL at r1
    obtain ⟨v, ws, rfl, r2, r3⟩ := r1
    rw [RepL.nil_iff.mp r3, rep_int r2]
    exact ⟨j, rfl, h2.1.1, h2.1.2, q _ _ _ M1 H1 e1 rm1 walk_rng h2.2⟩
  · exact h2.elim
theorem pir2 {a b : Expr} (hm : X.mg "range" = none) (ha : PA1 X x W [a, b] ta) (hg : Gl X "range" := by rfl) (hs : starEach [a, b] X.env = [(false, eval a X.env), (false, eval b X.env)] := by rfl) (hs2 : starEach [b] X.env = [(false, eval b X.env)] := by rfl) :
    PI1 X x W tg (.Call (.Name "range" p) [a, b] [] pos) (iRgB ta) := by
  refine imp_i (pi_range2 hg hm ha hs hs2) fun σ H R ⟨τ, M, R', E', rs, rm, h, q, ec⟩ => ?_
  refine bindA rs rm h ec fun us M1 vs H1 e1 rs1 rm1 r1 h2 => ?_
  split at h2
  · rename_i i j
    unfold RepL at r1
    obtain ⟨v, ws, rfl, r2, r3⟩ := r1
    unfold RepL at r3
    obtain ⟨v', ws', rfl, r4, r5⟩ := r3
    rw [RepL.nil_iff.mp r5, rep_int r2, rep_int r4]
    exact ⟨i, j, rfl, h2.1, q _ _ _ M1 H1 e1 rm1 walk_rng h2.2⟩
  · exact h2.elim
/-! ### for -/
def forR (S : Mp → Prop) (g : TG1) (tb : TS1) (D : TEnds) : List T → TSt → Mp → Prop
  | [], τ, M => S M ∧ D.nx τ M
  | t :: ts, τ, M => S M ∧ g t τ M (fun τ1 M1 => tb { D with nx := forR S g tb D ts, ct := forR S g tb D ts, bk := D.nx } τ1 M1) (dex D τ)
def tFor1 (wi : TI1) (g : TG1) (tb : TS1) : TS1 := fun D τ M => wi τ M (fun items S M1 => forR S g tb D items τ M1) (dex D τ)
theorem forR_S {S : Mp → Prop} {g : TG1} {tb : TS1} {D : TEnds} {l : List T} {τ : TSt} {M : Mp} (h : forR S g tb D l τ M) : S M := by
  cases l with
  | nil => exact h.1
  | cons t ts => exact h.1
theorem sfor {iter : Expr} {body : List Stmt} {wi : TI1} {g : TG1} {tb : TS1} (hp : PassesOwn (model X.prog X.w) X.A X.env X.xe) (hc : X.calm = true) (hi : PI1 X x W tg iter wi) (hg : PG1 X x W tg g) (hb : PSs1 X x W body tb)
    (hs : ∀ x, foldedSetIterable iter X.env x = pure x := by intro _; rfl) : PS1 X x W (.For tg iter body [] pos) (tFor1 wi g tb) := by
  refine imp_s (ps_for hp hc hi hg hb hs) fun D σ H ⟨τ, M, D', rs, rm, h, sc⟩ => ?_
  refine ⟨τ, M, _, _, rs, rm, h, fun J items S M1 H1 e1 rm1 w h1 => ?_, sc.ec rs⟩
  refine ⟨fun i m σ2 H2 => ∃ τ2 M2, i ≤ items.length ∧ m = items.length - i ∧ Ext M1 H1 M2 H2 ∧ RelS x W H2 M2 σ2 τ2 ∧ RelM x H2 M2 ∧ forR S g tb D' (items.drop i) τ2 M2,
    ⟨_, τ, M1, Nat.zero_le _, rfl, .refl, rs.ext e1, rm1, by simpa using h1⟩, ?_⟩
  rintro i m σ2 H2 ⟨τ2, M2, hi2, rfl, e2, rs2, rm2, h2⟩
  obtain ⟨w1, w2⟩ := w x.F Adds.self i M2 H2 e2 rm2 (forR_S h2)
  by_cases hl : i < items.length
  · right
    have hd : items.drop i = items[i] :: items.drop (i + 1) := List.drop_eq_getElem_cons hl
    rw [hd] at h2
    obtain ⟨go, yl⟩ := w1 items[i] (List.getElem?_eq_getElem hl)
    refine ⟨go, fun σ3 H3 => ∃ τ3 M3, Ext M1 H1 M3 H3 ∧ RelS x W H3 M3 σ3 τ3 ∧ RelM x H3 M3 ∧ forR S g tb D' (items.drop (i + 1)) τ3 M3, fun σ3 H3 ⟨τ3, M3, e3, rs3, rm3, h3⟩ => ⟨items.length - (i + 1), by omega, τ3, M3, hl, rfl, e3, rs3, rm3, h3⟩, fun v H3 hy => ?_⟩
    obtain ⟨e3, rm3, r3⟩ := yl v H3 hy
    have ee : Ext M H M2 H3 := (e1.trans e2).trans e3
    refine ⟨items[i], τ2, M2, _, _, r3, rs2.ext e3, rm3, h2.2, fun τ4 M4 σ4 H4 e4 rs4 rm4 h4 => ?_, (sc.ext ((e1.trans e2).trans e3)).ec (rs2.ext e3)⟩
    refine ⟨τ4, M4, _, rs4, rm4, h4, ?_⟩
    have e5 := (e2.trans e3).trans e4
    have nxt : ∀ τ5 M5 σ5 H5, Ext M4 H4 M5 H5 → RelS x W H5 M5 σ5 τ5 → RelM x H5 M5 → forR S g tb D' (items.drop (i + 1)) τ5 M5 → ∃ τ3 M3, Ext M1 H1 M3 H5 ∧ RelS x W H5 M3 σ5 τ3 ∧ RelM x H5 M3 ∧ forR S g tb D' (items.drop (i + 1)) τ3 M3 := fun τ5 M5 σ5 H5 e6 rs5 rm5 h5 => ⟨τ5, M5, e5.trans e6, rs5, rm5, h5⟩
    have sc4 := sc.ext (ee.trans e4)
    exact ⟨nxt, sc4.rt, sc4.nx, nxt, sc4.ex⟩
  · left
    have he : i = items.length := by omega
    subst he
    rw [List.drop_length] at h2
    exact ⟨w2 (Nat.le_refl _), sc.nx τ2 M2 σ2 H2 (e1.trans e2) rs2 rm2 h2.2⟩
/-! ### while -/
def whR (c : TT1) (tb : TS1) (D : TEnds) : Nat → TSt → Mp → Prop
  | 0, _, _ => False
  | n + 1, τ, M => c τ M (fun b M1 => if b = true then tb { D with nx := whR c tb D n, ct := whR c tb D n, bk := D.nx } τ M1 else D.nx τ M1) (dex D τ)
def tWh1 (c : TT1) (tb : TS1) : TS1 := fun D τ M => ∃ n, whR c tb D n τ M
theorem swh {c : Expr} {body : List Stmt} {tc : TT1} {tb : TS1} (hp : PassesOwn (model X.prog X.w) X.A X.env X.xe) (hc : PT1 X x W c tc) (hb : PSs1 X x W body tb) : PS1 X x W (.While c body [] pos) (tWh1 tc tb) := by
  refine imp_s (ps_while hp hc hb) fun D σ H ⟨τ, M, D', rs, rm, ⟨n, h⟩, sc⟩ => ?_
  refine ⟨fun m σ2 H2 => ∃ τ2 M2, Ext M H M2 H2 ∧ RelS x W H2 M2 σ2 τ2 ∧ RelM x H2 M2 ∧ whR tc tb D' m τ2 M2, ⟨n, τ, M, .refl, rs, rm, h⟩, ?_⟩
  rintro m σ2 H2 ⟨τ2, M2, e2, rs2, rm2, h2⟩
  cases m with
  | zero => exact h2.elim
  | succ m =>
    refine ⟨τ2, M2, _, _, rs2, rm2, h2, fun b M3 H3 e3 rm3 h3 => ?_, (sc.ext e2).ec rs2⟩
    cases b with
    | true =>
      rw [if_pos rfl] at h3 ⊢
      refine ⟨fun σ4 H4 => ∃ τ4 M4, Ext M H M4 H4 ∧ RelS x W H4 M4 σ4 τ4 ∧ RelM x H4 M4 ∧ whR tc tb D' m τ4 M4, fun σ4 H4 q => ⟨m, Nat.lt_succ_self m, q⟩, τ2, M3, _, rs2.ext e3, rm3, h3, ?_⟩
      have sc3 := sc.ext (e2.trans e3)
      have nxt : ∀ τ5 M5 σ5 H5, Ext M3 H3 M5 H5 → RelS x W H5 M5 σ5 τ5 → RelM x H5 M5 → whR tc tb D' m τ5 M5 → ∃ τ4 M4, Ext M H M4 H5 ∧ RelS x W H5 M4 σ5 τ4 ∧ RelM x H5 M4 ∧ whR tc tb D' m τ4 M4 := fun τ5 M5 σ5 H5 e6 rs5 rm5 h5 => ⟨τ5, M5, (e2.trans e3).trans e6, rs5, rm5, h5⟩
      exact ⟨nxt, sc3.rt, sc3.nx, nxt, sc3.ex⟩
    | false =>
      rw [if_neg Bool.false_ne_true] at h3 ⊢
      exact sc.nx τ2 M3 σ2 H3 (e2.trans e3) (rs2.ext e3) rm3 h3
end
end TL

set_option Elab.async false
set_option linter.all false
set_option maxRecDepth 100000
/-! TL7: list comprehensions; enumerate, zip. -/
namespace TL
open PySem PySem.Spec PyProof.Rows L2
/-! ### hidden things -/
def Tx.hid (x : Tx) (D : Addr) : Tx := x.wF (fun a => x.F a ∨ a = D)
section
variable {x : Tx} {H : Hp} {M : Mp} {D : Addr} {o : HO} {z : NK × List T}
theorem HoldsH.hid {k : NK} {a : Addr} {vs : List V} (h : HoldsH x H k a vs) : HoldsH (x.hid D) H k a vs := by cases k <;> exact h
theorem HoldsH.unhid {k : NK} {a : Addr} {vs : List V} (h : HoldsH (x.hid D) H k a vs) : HoldsH x H k a vs := by cases k <;> exact h
theorem HoldsK.hid {k : NK} {a : Addr} {vs : List V} (h : HoldsK x k a vs) : HoldsK (x.hid D) k a vs := by cases k <;> exact h
theorem HoldsK.unhid {k : NK} {a : Addr} {vs : List V} (h : HoldsK (x.hid D) k a vs) : HoldsK x k a vs := by cases k <;> exact h
theorem HoldsH.other {k : NK} {a : Addr} {vs : List V} (hne : a ≠ D) (h : HoldsH x H k a vs) : HoldsH x (upd H D o) k a vs := by
  cases k with
  | tup => show upd H D o a = _; rw [upd_ne hne]; exact h
  | lst =>
    rcases h with h | ⟨u, h⟩
    · exact .inl (by rw [upd_ne hne]; exact h)
    · exact .inr ⟨u, by rw [upd_ne hne]; exact h⟩
  | dic ks => exact ⟨h.1, by rw [upd_ne hne]; exact h.2⟩
  | ins C ns => obtain ⟨hl, dx, h⟩ := h; exact ⟨hl, dx, by rw [upd_ne hne]; exact h⟩
  | exc C ns => exact h.elim
mutual
/-- nothing stands at D: it may be hidden -/
theorem Rep.hid (hD : H D = none) : ∀ {t : T} {v : V}, Rep x H M t v → Rep (x.hid D) H M t v
  | .non, _, h => h
  | .bl _, _, h => h
  | .int _, _, h => h
  | .str _, _, h => h
  | .ty _, _, h => h
  | .obj _, _, h => h
  | .node k ts, _, h => by
    unfold Rep at h ⊢
    obtain ⟨a, vs, rfl, hh, hl⟩ := h
    refine ⟨a, vs, rfl, ?_, RepL.hid hD hl⟩
    rcases hh with ⟨m, nf, hh⟩ | hh
    · refine .inl ⟨m, fun f => ?_, hh.hid⟩
      rcases f with f | f
      · exact nf f
      · subst f
        obtain ⟨o, e⟩ := hh.some
        rw [hD] at e; cases e
    · exact .inr hh.hid
theorem RepL.hid (hD : H D = none) : ∀ {ts : List T} {vs : List V}, RepL x H M ts vs → RepL (x.hid D) H M ts vs
  | [], _, h => h
  | t :: ts, _, h => by
    unfold RepL at h ⊢
    obtain ⟨v, ws, rfl, h1, h2⟩ := h
    exact ⟨v, ws, rfl, h1.hid hD, RepL.hid hD h2⟩
end
mutual
/-- what is hidden is changed, or let be seen as a changing thing -/
theorem Rep.unhid (hM : M D = none) : ∀ {t : T} {v : V}, Rep (x.hid D) H M t v → Rep x H M t v ∧ Rep (x.hid D) (upd H D o) M t v ∧ Rep x H (updM M D z) t v
  | .non, _, h => ⟨h, h, h⟩
  | .bl _, _, h => ⟨h, h, h⟩
  | .int _, _, h => ⟨h, h, h⟩
  | .str _, _, h => ⟨h, h, h⟩
  | .ty _, _, h => ⟨h, h, h⟩
  | .obj _, _, h => ⟨h, h, h⟩
  | .node k ts, _, h => by
    unfold Rep at h
    obtain ⟨a, vs, rfl, hh, hl⟩ := h
    obtain ⟨l1, l2, l3⟩ := RepL.unhid hM hl
    rcases hh with ⟨m, nf, hh⟩ | hh
    · have hne : a ≠ D := fun e => nf (.inr e)
      refine ⟨?_, ?_, ?_⟩
      · unfold Rep; exact ⟨a, vs, rfl, .inl ⟨m, fun f => nf (.inl f), hh.unhid⟩, l1⟩
      · unfold Rep; exact ⟨a, vs, rfl, .inl ⟨m, nf, hh.other hne⟩, l2⟩
      · unfold Rep; exact ⟨a, vs, rfl, .inl ⟨by rw [updM_ne hne]; exact m, fun f => nf (.inl f), hh.unhid⟩, l3⟩
    · refine ⟨?_, ?_, ?_⟩
      · unfold Rep; exact ⟨a, vs, rfl, .inr hh.unhid, l1⟩
      · unfold Rep; exact ⟨a, vs, rfl, .inr hh, l2⟩
      · unfold Rep; exact ⟨a, vs, rfl, .inr hh.unhid, l3⟩
theorem RepL.unhid (hM : M D = none) : ∀ {ts : List T} {vs : List V}, RepL (x.hid D) H M ts vs → RepL x H M ts vs ∧ RepL (x.hid D) (upd H D o) M ts vs ∧ RepL x H (updM M D z) ts vs
  | [], _, h => ⟨h, h, h⟩
  | t :: ts, _, h => by
    unfold RepL at h
    obtain ⟨v, ws, rfl, h1, h2⟩ := h
    obtain ⟨a1, a2, a3⟩ := Rep.unhid hM h1
    obtain ⟨b1, b2, b3⟩ := RepL.unhid hM h2
    exact ⟨RepL.cons a1 b1, RepL.cons a2 b2, RepL.cons a3 b3⟩
end
theorem HoldsM.hid {k : NK} {a : Addr} {vs : List V} (h : HoldsM x H k a vs) : HoldsM (x.hid D) H k a vs := by cases k <;> exact h
theorem HoldsM.unhid {k : NK} {a : Addr} {vs : List V} (h : HoldsM (x.hid D) H k a vs) : HoldsM x H k a vs := by cases k <;> exact h
/-- a new list is laid, and hidden -/
theorem RelM.hidNew (r : RelM x H M) (hD : H D = none) : RelM (x.hid D) (upd H D o) M := by
  have m := r.free hD
  refine ⟨fun a k ts e => ?_, fun a f => ?_⟩
  · obtain ⟨vs, h1, h2⟩ := r.1 a k ts e
    exact ⟨vs, (h1.new hD).hid, (h2.hid hD).ext (Ext.new hD)⟩
  · rcases f with f | f
    · obtain ⟨⟨u, e⟩, q⟩ := r.2 a f
      exact ⟨⟨u, by rw [upd_ne (ne_of_none e hD)]; exact e⟩, q⟩
    · subst f; exact ⟨⟨o, upd_same⟩, m⟩
theorem RelM.unhid (r : RelM (x.hid D) H M) : RelM x H M :=
  ⟨fun a k ts e => let ⟨vs, h1, h2⟩ := r.1 a k ts e; ⟨vs, h1.unhid, (RepL.unhid (o := .tup []) (z := (.lst, [])) (r.2 D (.inr rfl)).2 h2).1⟩, fun a f => r.2 a (.inl f)⟩
theorem RelM.hidChg (r : RelM (x.hid D) H M) : RelM (x.hid D) (upd H D o) M := by
  have m := (r.2 D (.inr rfl)).2
  refine ⟨fun a k ts e => ?_, fun a f => ?_⟩
  · obtain ⟨vs, h1, h2⟩ := r.1 a k ts e
    have hne : a ≠ D := fun q => by subst q; rw [m] at e; cases e
    exact ⟨vs, h1.other hne, (RepL.unhid (o := o) (z := (.lst, [])) m h2).2.1⟩
  · obtain ⟨⟨u, e⟩, q⟩ := r.2 a f
    by_cases ha : a = D
    · subst ha; exact ⟨⟨o, upd_same⟩, q⟩
    · exact ⟨⟨u, by rw [upd_ne ha]; exact e⟩, q⟩
theorem RelM.unhidM {k : NK} {ts : List T} {vs : List V} (r : RelM (x.hid D) H M) (nf : ¬ x.F D) (hk : HoldsM x H k D vs) (hl : RepL (x.hid D) H M ts vs) : RelM x H (updM M D (k, ts)) := by
  have m := (r.2 D (.inr rfl)).2
  refine ⟨fun a k' ts' e => ?_, fun a f => ?_⟩
  · by_cases ha : a = D
    · subst ha
      rw [updM_same] at e; cases e
      exact ⟨vs, hk, (RepL.unhid (o := .tup []) m hl).2.2⟩
    · rw [updM_ne ha] at e
      obtain ⟨ws, h1, h2⟩ := r.1 a k' ts' e
      exact ⟨ws, h1.unhid, (RepL.unhid (o := .tup []) m h2).2.2⟩
  · obtain ⟨e, q⟩ := r.2 a (.inl f)
    have hne : a ≠ D := fun q => by subst q; exact nf f
    exact ⟨e, by rw [updM_ne hne]; exact q⟩
end
/-! ### slots of a block -/
def wipeT (τ : TSt) : List Nat → TSt
  | [] => τ
  | v :: vs => (wipeT τ vs).set v none
theorem RelS.wipe {x : Tx} {W : Wz} {H : Hp} {M : Mp} {σ : L2.St} {τ : TSt} (r : RelS x W H M σ τ) : ∀ vs, RelS x W H M (L2.wipe σ vs) (wipeT τ vs)
  | [] => r
  | v :: vs => (RelS.wipe r vs).unset v
theorem wipe_set (σ : L2.St) (i : Nat) (a : Option V) : ∀ vs, L2.wipe (σ.set i a) vs = if i ∈ vs then L2.wipe σ vs else (L2.wipe σ vs).set i a
  | [] => by simp [L2.wipe]
  | v :: vs => by
    have ih := wipe_set σ i a vs
    unfold L2.wipe
    rw [ih]
    by_cases h : i ∈ vs
    · rw [if_pos h, if_pos (List.mem_cons_of_mem _ h)]
    · rw [if_neg h]
      by_cases e : i = v
      · subst e
        rw [if_pos List.mem_cons_self, List.set_set]
      · rw [if_neg (by simp [e, h]), List.set_comm _ _ e]
theorem wipe_wipe (σ : L2.St) : ∀ vs us : List Nat, (∀ v ∈ us, v ∈ vs) → L2.wipe (L2.wipe σ us) vs = L2.wipe σ vs
  | _, [], _ => rfl
  | vs, u :: us, h => by
    show L2.wipe ((L2.wipe σ us).set u none) vs = _
    rw [wipe_set, if_pos (h u List.mem_cons_self)]
    exact wipe_wipe σ vs us fun v hv => h v (List.mem_cons_of_mem _ hv)
/-- a block's target: a name, or a tuple of names -/
inductive NT where
  | nm (i : Nat)
  | tp (l : List Nat)
def setAll : List Nat → List T → TSt → Option TSt
  | [], [], τ => some τ
  | i :: l, u :: us, τ => setAll l us (τ.set i (some u))
  | _, _, _ => none
def tgt : NT → T → TSt → Option TSt
  | .nm i, u, τ => some (τ.set i (some u))
  | .tp l, u, τ => match rdU u with
    | some us => setAll l us τ
    | none => none
def gAll : List Nat → TGs
  | [] => gNil
  | i :: l => gCons (gName i) (gAll l)
def gNT (K : PySem.W.Frag) : NT → TG
  | .nm i => gName i
  | .tp l => gTup K l.length (gAll l)
def NT.slots : NT → List Nat
  | .nm i => [i]
  | .tp l => l
section
variable {x : Tx} {W : Wz} {H : Hp} {M : Mp}
theorem setAll_ok {vs : List Nat} {Q : L2.St → Hp → Prop} : ∀ {l : List Nat} {us : List T} {ws : List V} {τ τ' : TSt} {σ : L2.St}, RelS x W H M σ τ → RepL x H M us ws → setAll l us τ = some τ' → (∀ i ∈ l, i ∈ vs) →
    (∀ σ', RelS x W H M σ' τ' → L2.wipe σ' vs = L2.wipe σ vs → Q σ' H) → us.length = l.length ∧ gAll l ws σ H Q
  | [], [], ws, τ, τ', σ, rs, rl, e, hv, k => by
    cases e
    exact ⟨rfl, RepL.nil_iff.mp rl, k σ rs rfl⟩
  | [], u :: us, ws, τ, τ', σ, rs, rl, e, hv, k => by cases e
  | i :: l, [], ws, τ, τ', σ, rs, rl, e, hv, k => by cases e
  | i :: l, u :: us, ws, τ, τ', σ, rs, rl, e, hv, k => by
    unfold RepL at rl
    obtain ⟨v, ws', rfl, r1, r2⟩ := rl
    obtain ⟨h1, h2⟩ := setAll_ok (vs := vs) (Q := Q) (rs.set r1 i) r2 e (fun j hj => hv j (List.mem_cons_of_mem _ hj)) fun σ' rs' hw => k σ' rs' (by rw [hw, wipe_set, if_pos (hv i List.mem_cons_self)])
    exact ⟨by simp [h1], v, ws', rfl, h2⟩
theorem tgt_ok {vs : List Nat} {Q : L2.St → Hp → Prop} {u : T} {v : V} (nt : NT) {τ τ' : TSt} {σ : L2.St} (rs : RelS x W H M σ τ) (r : Rep x H M u v) (e : tgt nt u τ = some τ') (hv : ∀ i ∈ nt.slots, i ∈ vs) (k : ∀ σ', RelS x W H M σ' τ' → L2.wipe σ' vs = L2.wipe σ vs → Q σ' H) : gNT x.K nt v σ H Q := by
  match nt, e, hv with
  | .nm i, e, hv =>
    cases e
    exact k _ (rs.set r i) (by rw [wipe_set, if_pos (hv i (List.mem_singleton.mpr rfl))])
  | .tp l, e, hv =>
    unfold tgt at e
    simp only at e
    split at e
    · rename_i us hus
      obtain ⟨p, ws, rfl, hq, rl⟩ := rdU_ok r hus
      obtain ⟨h1, h2⟩ := setAll_ok (vs := vs) (Q := Q) rs rl e hv k
      exact ⟨p, ws, rfl, hq, by rw [← rl.length]; exact h1, h2⟩
    · cases e
end
/-! ### the reading of a comprehension -/
abbrev F0 : TK := fun _ _ => False
def lcR (S : Mp → Prop) (nt : NT) (tt : TT1) (te : TE1) (τ : TSt) (Q : List T → Mp → Prop) : List T → List T → Mp → Prop
  | [], acc, M => S M ∧ Q acc M
  | t :: ts, acc, M => S M ∧ match tgt nt t τ with
    | some τ2 => tt τ2 M (fun b M3 => if b = true then te τ2 M3 (fun y M4 => acc.length < sizeLine ∧ lcR S nt tt te τ Q ts (acc ++ [y]) M4) F0 else lcR S nt tt te τ Q ts acc M3) F0
    | none => False
def tLc1 (wi : TI1) (nt : NT) (tt : TT1) (te : TE1) (vs : List Nat) : TE1 := fun τ M Q E => wi τ M (fun items S M1 => lcR S nt tt te (wipeT τ vs) (fun acc M2 => newL acc M2 Q) items [] M1) E
def Wb (W : Wz) : Wz := ⟨fun _ _ _ _ => False, W.Z, W.Zs⟩
def tYes1 : TT1 := fun _ M Q _ => Q true M
/-- a block's tests -/
def PTs1 (X : Cx) (x : Tx) (W : Wz) (ifs : List Expr) (t : TT1) : Prop := PTs X ifs (liftT x W t)
section
variable {X : Cx} {x : Tx} {W : Wz} {elt tg iter : Expr} {ifs : List Expr} {scope : Scope} {own : List (Str × Nat)} {pos : Pos} {wi : TI1} {nt : NT} {tt : TT1} {te : TE1}
theorem pts0 : PTs1 X x W [] tYes1 := ⟨fun p s σ H Q I ⟨τ, M, Q', E', rs, rm, h, q, ec⟩ => pts_nil.run p s σ H Q I (q _ M H .refl rm h)⟩
theorem pts1 {c : Expr} {t : TT1} (h : PT1 X x W c t) : PTs1 X x W [c] t := pts_one h
def anyF {α : Type} (f : (Addr → Prop) → α → Prop) : α → Prop := fun a => ∃ F, f F a
/-- the core: from the tree's reading to the layer's -/
theorem lc_lift {σ : L2.St} {H : Hp} {Q : VK} {vs : List Nat} (hv : ∀ i ∈ nt.slots, i ∈ vs) (h : liftE x W (tLc1 wi nt tt te vs) σ H Q) :
    tLc (liftI x W wi) (gNT x.K nt) (fun σ H Q => ∃ F, liftT ⟨x.K, x.cd, F⟩ (Wb W) tt σ H Q) (fun σ H Q => ∃ F, liftE ⟨x.K, x.cd, F⟩ (Wb W) te σ H Q) vs σ H Q := by
  obtain ⟨τ, M, Q', E', rs, rm, h, q, ec⟩ := h
  refine ⟨τ, M, _, E', rs, rm, h, fun J items S M1 H1 e1 rm1 w h1 => ?_, ec⟩
  intro D hD
  have mD := rm1.free hD
  have hAdd : Adds x H1 (fun a => x.F a ∨ a = D) := fun a o e f => f.elim id fun z => by subst z; rw [hD] at e; cases e
  have nfD := rm1.nf hD
  have rsW : RelS (x.hid D) W H1 M1 σ τ := ⟨(rs.ext e1).1, fun i t e => let ⟨v, a, b⟩ := (rs.ext e1).2.1 i t e; ⟨v, a, b.hid hD⟩, (rs.ext e1).2.2⟩
  refine ⟨fun i m H2 => ∃ M2 acc accV, i ≤ items.length ∧ m = items.length - i ∧ Ext M1 H1 M2 H2 ∧ RelM (x.hid D) H2 M2 ∧ H2 D = some (.lst accV) ∧ RepL (x.hid D) H2 M2 acc accV ∧ lcR S nt tt te (wipeT τ vs) (fun acc M2 => newL acc M2 Q') (items.drop i) acc M2,
    ⟨_, M1, [], [], Nat.zero_le _, rfl, Ext.new hD, rm1.hidNew hD, upd_same, RepL.nil, by simpa using h1⟩, ?_⟩
  rintro i m H2 ⟨M2, acc, accV, hi, rfl, e2, rm2, hD2, rl2, h2⟩
  have hS : S M2 := by
    cases q : items.drop i with
    | nil => rw [q] at h2; exact h2.1
    | cons t ts => rw [q] at h2; exact h2.1
  obtain ⟨w1, w2⟩ := w (fun a => x.F a ∨ a = D) hAdd i M2 H2 e2 rm2 hS
  by_cases hl : i < items.length
  · right
    have hd : items.drop i = items[i] :: items.drop (i + 1) := List.drop_eq_getElem_cons hl
    rw [hd] at h2
    obtain ⟨go, yl⟩ := w1 items[i] (List.getElem?_eq_getElem hl)
    obtain ⟨_, h2⟩ := h2
    split at h2
    · rename_i τ2 ht
      refine ⟨go, fun H3 => ∃ M3 acc accV, Ext M1 H1 M3 H3 ∧ RelM (x.hid D) H3 M3 ∧ H3 D = some (.lst accV) ∧ RepL (x.hid D) H3 M3 acc accV ∧ lcR S nt tt te (wipeT τ vs) (fun acc M2 => newL acc M2 Q') (items.drop (i + 1)) acc M3,
        fun H3 ⟨M3, acc, accV, e3, r3, d3, l3, h3⟩ => ⟨items.length - (i + 1), by omega, M3, acc, accV, hl, rfl, e3, r3, d3, l3, h3⟩, fun v H3 hy => ?_⟩
      obtain ⟨e3, rm3, r3⟩ := yl v H3 hy
      have m2 := (rm2.2 D (.inr rfl)).2
      have d3 : H3 D = some (.lst accV) := (e3 D _ m2 hD2).1
      have rs3 : RelS (x.hid D) (Wb W) H3 M2 (L2.wipe σ vs) (wipeT τ vs) := by
        have := ((RelS.ext (e2.trans e3) rsW)).wipe vs
        exact ⟨this.1, this.2.1, this.2.2⟩
      refine tgt_ok (x := x.hid D) nt rs3 r3 ht hv fun σ4 rs4 hw => ?_
      refine ⟨by rw [hw]; exact wipe_wipe σ vs vs fun _ h => h, ?_⟩
      refine ⟨fun a => x.F a ∨ a = D, τ2, M2, _, _, rs4, rm3, h2, fun b M5 H5 e5 rm5 h5 => ?_, EC.never⟩
      have m5 := (rm5.2 D (.inr rfl)).2
      have d5 : H5 D = some (.lst accV) := (e5 D _ m2 d3).1
      have l5 := RepL.ext (e3.trans e5) rl2
      cases b with
      | true =>
        dsimp only
        rw [if_pos rfl] at h5 ⊢
        refine ⟨fun a => x.F a ∨ a = D, τ2, M5, _, _, rs4.ext e5, rm5, h5, fun y M6 yv H6 e6 rm6 r6 h6 => ?_, EC.never⟩
        have m6 := (rm6.2 D (.inr rfl)).2
        have d6 : H6 D = some (.lst accV) := (e6 D _ m5 d5).1
        have l6 := RepL.ext e6 l5
        refine ⟨accV, d6, by rw [← l6.length]; exact h6.1, M6, acc ++ [y], accV ++ [yv], fun a o q1 q2 => ?_, rm6.hidChg, upd_same, ?_, h6.2⟩
        · have hne : a ≠ D := fun z => by subst z; rw [hD] at q2; cases q2
          obtain ⟨a1, a2⟩ := (((e2.trans e3).trans e5).trans e6) a o q1 q2
          exact ⟨by rw [upd_ne hne]; exact a1, a2⟩
        · exact (RepL.unhid (z := (.lst, [])) m6 (l6.snoc r6)).2.1
      | false =>
        dsimp only
        rw [if_neg Bool.false_ne_true] at h5 ⊢
        exact ⟨M5, acc, accV, ((e2.trans e3).trans e5), rm5, d5, l5, h5⟩
    · exact h2.elim
  · left
    have he : i = items.length := by omega
    subst he
    rw [List.drop_length] at h2
    obtain ⟨_, h2⟩ := h2
    refine ⟨w2 (Nat.le_refl _), ?_⟩
    have m2 := (rm2.2 D (.inr rfl)).2
    have ee : ∀ a o, M a = none → H a = some o → a ≠ D := fun a o h1 h2 z => by
      subst z
      have := (e1 a o h1 h2).1
      rw [hD] at this; cases this
    rcases h2 with h2 | h2
    · refine q _ M2 _ H2 (e1.trans e2) rm2.unhid ?_ h2
      unfold Rep
      exact ⟨D, accV, rfl, .inl ⟨m2, nfD, .inl hD2⟩, (RepL.unhid (o := .tup []) (z := (.lst, [])) m2 rl2).1⟩
    · refine q _ _ _ H2 (fun a o h3 h4 => ?_) (rm2.unhidM (k := .lst) nfD hD2 rl2) rep_obj_ (h2 D m2)
      have hne := ee a o h3 h4
      obtain ⟨a1, a2⟩ := (e1.trans e2) a o h3 h4
      exact ⟨a1, by rw [updM_ne hne]; exact a2⟩
theorem plc1 (hc : X.calm = true) (hN : X.N.Nodup) (hK : X.K = x.K) (hi : PI1 X x W tg iter wi) (ok : BlkOk X.N X.env.scope scope own) (hv : ∀ i ∈ nt.slots, i ∈ own.map (·.2))
    (hg : ∀ (s : Shared) (H : Hp) (C : Addr) (cl : List (Str × Addr)) (fp : List Addr), PG (X.blk s H scope (compEnvC scope cl C X.env) fp) tg (gNT X.K nt))
    (ht : ∀ (F : Addr → Prop) (s : Shared) (H : Hp) (C : Addr) (cl : List (Str × Addr)) (fp : List Addr), PTs1 (X.blk s H scope (compEnvC scope cl C X.env) fp) ⟨x.K, x.cd, F⟩ (Wb W) ifs tt)
    (he : ∀ (F : Addr → Prop) (s : Shared) (H : Hp) (C : Addr) (cl : List (Str × Addr)) (fp : List Addr), PE1 (X.blk s H scope (compEnvC scope cl C X.env) fp) ⟨x.K, x.cd, F⟩ (Wb W) elt te) (hs : ∀ x, foldedSetIterable iter X.env x = pure x := by intro _; rfl) :
    PE1 X x W (.ListComp elt [⟨tg, iter, ifs, 0⟩] scope pos) (tLc1 wi nt tt te (own.map (·.2))) := by
  obtain ⟨K, cd, F0⟩ := x
  dsimp only at hK
  subst hK
  have ht' : ∀ (s : Shared) (H : Hp) (C : Addr) (cl : List (Str × Addr)) (fp : List Addr), PTs (X.blk s H scope (compEnvC scope cl C X.env) fp) ifs (fun σ H Q => ∃ F, liftT ⟨X.K, cd, F⟩ (Wb W) tt σ H Q) := fun s H C cl fp => ⟨fun pins s' σ H' Q I ⟨F, h⟩ => (ht F s H C cl fp).run pins s' σ H' Q I h⟩
  have he' : ∀ (s : Shared) (H : Hp) (C : Addr) (cl : List (Str × Addr)) (fp : List Addr), PE (X.blk s H scope (compEnvC scope cl C X.env) fp) elt (fun σ H Q => ∃ F, liftE ⟨X.K, cd, F⟩ (Wb W) te σ H Q) := fun s H C cl fp => ⟨fun pins s' σ H' Q I ⟨F, h⟩ => (he F s H C cl fp).run pins s' σ H' Q I h⟩
  exact imp_e (pe_lc hc hN hi ok hg ht' he' hs) fun σ H Q h => lc_lift (x := ⟨X.K, cd, F0⟩) hv h
/-- y = [..] -/
theorem slc1 {i : Nat} {y : Str} {py spos : Pos} (hc : X.calm = true) (hN : X.N.Nodup) (hK : X.K = x.K) (hy : X.N[i]? = some y) (hyl : X.env.scope.names.lookup y = some .local) (hsw : swapsWith (.ListComp elt [⟨tg, iter, ifs, 0⟩] scope pos) (some (.Name y py)) spos.line X.env = pure true)
    (hi : PI1 X x W tg iter wi) (ok : BlkOk X.N X.env.scope scope own) (hv : ∀ i ∈ nt.slots, i ∈ own.map (·.2))
    (hg : ∀ (s : Shared) (H : Hp) (C : Addr) (cl : List (Str × Addr)) (fp : List Addr), PG (X.blk s H scope (compEnvC scope cl C X.env) fp) tg (gNT X.K nt))
    (ht : ∀ (F : Addr → Prop) (s : Shared) (H : Hp) (C : Addr) (cl : List (Str × Addr)) (fp : List Addr), PTs1 (X.blk s H scope (compEnvC scope cl C X.env) fp) ⟨x.K, x.cd, F⟩ (Wb W) ifs tt)
    (he : ∀ (F : Addr → Prop) (s : Shared) (H : Hp) (C : Addr) (cl : List (Str × Addr)) (fp : List Addr), PE1 (X.blk s H scope (compEnvC scope cl C X.env) fp) ⟨x.K, x.cd, F⟩ (Wb W) elt te) (hs : ∀ x, foldedSetIterable iter X.env x = pure x := by intro _; rfl) :
    PS1 X x W (.Assign [.Name y py] (.ListComp elt [⟨tg, iter, ifs, 0⟩] scope pos) spos) (tAsg1 (tLc1 wi nt tt te (own.map (·.2))) (gName1 i)) := by
  obtain ⟨K, cd, F0⟩ := x
  dsimp only at hK
  subst hK
  have ht' : ∀ (s : Shared) (H : Hp) (C : Addr) (cl : List (Str × Addr)) (fp : List Addr), PTs (X.blk s H scope (compEnvC scope cl C X.env) fp) ifs (fun σ H Q => ∃ F, liftT ⟨X.K, cd, F⟩ (Wb W) tt σ H Q) := fun s H C cl fp => ⟨fun pins s' σ H' Q I ⟨F, h⟩ => (ht F s H C cl fp).run pins s' σ H' Q I h⟩
  have he' : ∀ (s : Shared) (H : Hp) (C : Addr) (cl : List (Str × Addr)) (fp : List Addr), PE (X.blk s H scope (compEnvC scope cl C X.env) fp) elt (fun σ H Q => ∃ F, liftE ⟨X.K, cd, F⟩ (Wb W) te σ H Q) := fun s H C cl fp => ⟨fun pins s' σ H' Q I ⟨F, h⟩ => (he F s H C cl fp).run pins s' σ H' Q I h⟩
  refine imp_s (ps_setLc hc hN hy hyl hsw hi ok hg ht' he' hs) fun D σ H ⟨τ, M, D', rs, rm, h, sc⟩ => ?_
  exact lc_lift (W := W) (x := ⟨X.K, cd, F0⟩) (Q := fun v H1 => D.nx (σ.set i (some v)) H1) hv (bindE rs rm h (sc.ec rs) fun u M1 v H1 e1 rs1 rm1 r1 h1 => sc.nx _ M1 _ H1 e1 (rs1.set r1 i) rm1 h1)
end
/-! ### enumerate, zip -/
section
variable {X : Cx} {x : Tx} {W : Wz} {p pos tpos : Pos} {elts : List Expr} {kk : Nat} {ta : TA1}
def enumT (ts : List T) : List T := ts.zipIdx.map fun q => .node .tup [.int (q.2 : Nat), q.1]
theorem enumT_get {ts : List T} {i : Nat} {t : T} (h : (enumT ts)[i]? = some t) : ∃ u, ts[i]? = some u ∧ t = .node .tup [.int (i : Nat), u] := by
  unfold enumT at h
  rw [List.getElem?_map, List.getElem?_zipIdx] at h
  cases q : ts[i]? with
  | none => rw [q] at h; cases h
  | some u =>
    rw [q] at h
    have : T.node .tup [.int ((0 + i : Nat) : Int), u] = t := by simpa using h
    exact ⟨u, rfl, by rw [← this]; simp⟩
theorem enumT_length (ts : List T) : (enumT ts).length = ts.length := by unfold enumT; simp
theorem pair_new {H : Hp} {M : Mp} {y : Addr} {us : List T} {vs : List V} (rm : RelM x H M) (hy : H y = none) (rl : RepL x H M us vs) : Ext M H M (upd H y (.tup vs)) ∧ RelM x (upd H y (.tup vs)) M ∧ Rep x (upd H y (.tup vs)) M (.node .tup us) (.ref y) :=
  ⟨Ext.new hy, rm.new hy, by unfold Rep; exact ⟨y, vs, rfl, .inl ⟨rm.free hy, rm.nf hy, upd_same⟩, rl.ext (Ext.new hy)⟩⟩
def iEn1 (ta : TA1) : TI1 := fun τ M R E => ta τ M (fun us M1 => match us with
  | [u] => (match rdL M1 u with
    | some ts => R (enumT ts) (fun M2 => stay M2 u ts) M1
    | none => False)
  | _ => False) E
theorem pien1 {e : Expr} (hm : X.mg "enumerate" = none) (hK : X.K = x.K) (ha : PA1 X x W [e] ta) (hg : Gl X "enumerate" := by rfl) (hs : starEach [e] X.env = [(false, eval e X.env)] := by rfl) : PI1 X x W (.Tuple elts kk tpos) (.Call (.Name "enumerate" p) [e] [] pos) (iEn1 ta) := by
  refine imp_i (pi_enum hg hm ha hs) fun σ H R ⟨τ, M, R', E', rs, rm, h, q, ec⟩ => ?_
  refine bindA rs rm h ec fun us M1 vs H1 e1 rs1 rm1 r1 h2 => ?_
  split at h2
  · rename_i u
    split at h2
    · rename_i ts hts
      unfold RepL at r1
      obtain ⟨v, ws, rfl, r2, r3⟩ := r1
      rw [RepL.nil_iff.mp r3]
      obtain ⟨a, vs, rfl, hq, rl⟩ := rdL_ok rm1 r2 hts
      refine ⟨a, vs, rfl, hK ▸ hq, hK ▸ q _ _ _ M1 H1 e1 rm1 ?_ h2⟩
      intro F hF i M2 H2 e2 rm2 s
      have r2' := (r2.wF hF).ext e2
      have hts2 : rdL M2 u = some ts := by
        cases u with
        | obj b => unfold stay rdS at s; unfold rdL; exact s
        | node k l => unfold rdL at hts ⊢; cases k <;> first | exact hts | cases hts
        | non => unfold rdL at hts; cases hts
        | bl _ => unfold rdL at hts; cases hts
        | int _ => unfold rdL at hts; cases hts
        | str _ => unfold rdL at hts; cases hts
        | ty _ => unfold rdL at hts; cases hts
      obtain ⟨a', vs', e3, hq', rl'⟩ := rdL_ok rm2 r2' hts2
      cases e3
      refine ⟨fun t ht => ?_, fun hi => ⟨vs', hq', by rw [← rl'.length, ← enumT_length]; exact hi⟩⟩
      obtain ⟨u', h3, rfl⟩ := enumT_get ht
      obtain ⟨v', h4, h5⟩ := rl'.get h3
      refine ⟨⟨vs', v', hq', h4⟩, fun v H3 ⟨y, z, e4, hy, e5, h6⟩ => ?_⟩
      have hz := h6 vs' hq'
      rw [h4] at hz
      cases hz
      subst e4 e5
      exact pair_new rm2 hy (RepL.cons rep_int_ (RepL.cons h5 RepL.nil))
    · exact h2.elim
  · exact h2.elim
def zipT : List T → List T → List T
  | a :: l, b :: r => .node .tup [a, b] :: zipT l r
  | _, _ => []
theorem zipT_get : ∀ {l r : List T} {i : Nat} {t : T}, (zipT l r)[i]? = some t → ∃ a b, l[i]? = some a ∧ r[i]? = some b ∧ t = .node .tup [a, b]
  | [], _, i, t, h => by unfold zipT at h; cases h
  | _ :: _, [], i, t, h => by unfold zipT at h; cases h
  | a :: l, b :: r, 0, t, h => by
    unfold zipT at h
    have : T.node .tup [a, b] = t := by simpa using h
    exact ⟨a, b, rfl, rfl, this.symm⟩
  | a :: l, b :: r, i + 1, t, h => by
    unfold zipT at h
    simpa using zipT_get (i := i) (by simpa using h)
theorem zipT_length : ∀ (l r : List T), (zipT l r).length = min l.length r.length
  | [], _ => by unfold zipT; simp
  | _ :: _, [] => by unfold zipT; simp
  | a :: l, b :: r => by unfold zipT; simp only [List.length_cons, zipT_length l r]; omega
def iZp1 (ta : TA1) : TI1 := fun τ M R E => ta τ M (fun us M1 => match us with
  | [u, w] => (match rdL M1 u, rdL M1 w with
    | some ts, some rs => R (zipT ts rs) (fun M2 => rdL M2 u = some ts ∧ rdL M2 w = some rs) M1
    | _, _ => match rdU u, rdU w with
      | some ts, some rs => R (zipT ts rs) (fun _ => True) M1
      | _, _ => False)
  | _ => False) E
theorem pizp1 {e e2 : Expr} (hm : X.mg "zip" = none) (hK : X.K = x.K) (ha : PA1 X x W [e, e2] ta) (hg : Gl X "zip" := by rfl) (hs : starEach [e, e2] X.env = (false, eval e X.env) :: starEach [e2] X.env := by rfl) (hpl : (backTo pos (starEach [e2] X.env)).any (·.1) = false := by rfl) :
    PI1 X x W (.Tuple elts kk tpos) (.Call (.Name "zip" p) [e, e2] [] pos) (iZp1 ta) := by
  refine imp_i (RZ.pi_zipA hg hm ha hs hpl) fun σ H R ⟨τ, M, R', E', rs, rm, h, q, ec⟩ => ?_
  refine bindA rs rm h ec fun us M1 vs H1 e1 rs1 rm1 r1 h2 => ?_
  split at h2
  · rename_i u w
    unfold RepL at r1
    obtain ⟨v, ws, rfl, r2, r3⟩ := r1
    unfold RepL at r3
    obtain ⟨v', ws', rfl, r4, r5⟩ := r3
    rw [RepL.nil_iff.mp r5]
    split at h2
    · rename_i ts rs' hu hw
      obtain ⟨a, xs, rfl, hq, rl⟩ := rdL_ok rm1 r2 hu
      obtain ⟨b, ys, rfl, hq', rl'⟩ := rdL_ok rm1 r4 hw
      refine ⟨a, b, xs, ys, rfl, .inl ⟨hK ▸ hq, hK ▸ hq', hK ▸ q _ _ _ M1 H1 e1 rm1 ?_ h2⟩⟩
      intro F hF i M2 H2 e2 rm2 s
      obtain ⟨a', xs', e3, hq2, rl2⟩ := rdL_ok rm2 ((r2.wF hF).ext e2) s.1
      obtain ⟨b', ys', e4, hq3, rl3⟩ := rdL_ok rm2 ((r4.wF hF).ext e2) s.2
      cases e3
      cases e4
      refine ⟨fun t ht => ?_, fun hi => ⟨xs', ys', hq2, hq3, by rw [zipT_length, rl2.length, rl3.length] at hi; omega⟩⟩
      obtain ⟨c, d, h3, h4, rfl⟩ := zipT_get ht
      obtain ⟨cv, h5, h6⟩ := rl2.get h3
      obtain ⟨dv, h7, h8⟩ := rl3.get h4
      refine ⟨⟨xs', ys', cv, dv, hq2, hq3, h5, h7⟩, fun v H3 ⟨y, c', d', e4, hy, e5, g1, g2⟩ => ?_⟩
      have z1 := g1 xs' hq2
      have z2 := g2 ys' hq3
      rw [h5] at z1; cases z1
      rw [h7] at z2; cases z2
      subst e4 e5
      exact pair_new rm2 hy (RepL.cons h6 (RepL.cons h8 RepL.nil))
    · split at h2
      · rename_i ts rs' hu hw
        obtain ⟨a, xs, rfl, hq, rl⟩ := rdU_ok r2 hu
        obtain ⟨b, ys, rfl, hq', rl'⟩ := rdU_ok r4 hw
        refine ⟨a, b, xs, ys, rfl, .inr ⟨hK ▸ hq, hK ▸ hq', hK ▸ q _ _ _ M1 H1 e1 rm1 ?_ h2⟩⟩
        intro F hF i M2 H2 e2 rm2 s
        obtain ⟨a', xs', e3, hq2, rl2⟩ := rdU_ok ((r2.wF hF).ext e2) hu
        obtain ⟨b', ys', e4, hq3, rl3⟩ := rdU_ok ((r4.wF hF).ext e2) hw
        cases e3
        cases e4
        refine ⟨fun t ht => ?_, fun hi => ⟨xs', ys', hq2, hq3, by rw [zipT_length, rl2.length, rl3.length] at hi; omega⟩⟩
        obtain ⟨c, d, h3, h4, rfl⟩ := zipT_get ht
        obtain ⟨cv, h5, h6⟩ := rl2.get h3
        obtain ⟨dv, h7, h8⟩ := rl3.get h4
        refine ⟨⟨xs', ys', cv, dv, hq2, hq3, h5, h7⟩, fun v H3 ⟨y, c', d', e4, hy, e5, g1, g2⟩ => ?_⟩
        have z1 := g1 xs' hq2
        have z2 := g2 ys' hq3
        rw [h5] at z1; cases z1
        rw [h7] at z2; cases z2
        subst e4 e5
        exact pair_new rm2 hy (RepL.cons h6 (RepL.cons h8 RepL.nil))
      · exact h2.elim
  · exact h2.elim
end
end TL

set_option Elab.async false
set_option linter.all false
set_option maxRecDepth 100000
set_option maxHeartbeats 1000000
/-! TL8: own refusals: made, raised, caught. -/
namespace TL
open PySem PySem.Spec PyProof.Rows L2
/-! ### the base's initializer, by the class above -/
/-- the class that stands above all refusals, its initializer ValueError's -/
structure TopX (K : PySem.W.Frag) (mg : Str → Option Value) (y : Str) (C : Addr) : Prop where
  at_ : mg y = some (.ref C)
  ga : PySem.W.specialIn K (.ref C) "__getattribute__" = some (some (.builtin "type.__getattribute__"))
  rd : PySem.W.readsIn K C (.type "type") = true
  ini : PySem.W.findCls K (.ref C) (.type "type") "__init__" = some (.val (.builtin "ValueError.__init__"))
section
variable {X : Cx} {e : Expr} {es : List Expr} {ta : TA} {y : Str} {C : Addr} {p1 p2 pos : Pos}
theorem pe_topinit {pl : Sem Bool} (T : TopX X.K X.mg y C) (ha : PA X (e :: es) ta) (hg : Gl X y := by rfl) (hdb : (y == ("__debug__" : Str)) = false := by decide)
    (hc : eval (.Call (.Attribute (.Name y p1) "__init__" p2) (e :: es) [] pos) X.env = (do
      let cv ← eval (.Name y p1) X.env
      standAt p2.atName
      let (f, first) ← holding [cv] (getMethod cv "__init__" pl)
      callWith pos f first (backTo pos (starEach (e :: es) X.env)) (backToKw pos (keywordEach [] X.env))) := by rfl)
    (he : starEach (e :: es) X.env = (false, eval e X.env) :: starEach es X.env := by rfl) (hpl : (backTo pos (starEach es X.env)).any (·.1) = false := by rfl) :
    PE X (.Call (.Attribute (.Name y p1) "__init__" p2) (e :: es) [] pos) (tVeI X.K ta) := by
  refine ⟨fun pins s σ H Q I h => ?_⟩
  refine PySem.W.methodCall_KW (ld_glob I hg T.at_ ?_ hdb) hc
  refine PySem.W.method_cls I.kIn T.ga (PySem.W.cls_value I.kIn T.rd T.ini (by decide +kernel) ?_)
  show wpAny _ _ (callWith pos (Value.builtin "ValueError.__init__") [] (backTo pos (starEach (e :: es) X.env)) []) _ _ _
  refine PyProof.Rows.callWith_method1 (thn (ha.run pos pins _ σ H _ (I.tok _) h) fun us s1 ⟨vs, H1, I1, r1, a, C', ws, ev, hl, T', ea, q⟩ => ?_) he hpl
  subst ev
  cases r1 with
  | cons ra rw' =>
    obtain rfl := ra
    refine oinit_ok T' I1 ea ?_ fun s' J => ⟨.non, H1, J, rfl, q⟩
    have := Paired.length rw'
    rw [sizeLine_eq]
    omega
end
/-! ### the initializers -/
/-- one field -/
def spI1 (K : PySem.W.Frag) (C : Addr) (f : Str) : Sp := fun vs H Q _ => ∃ (a : Addr) (v : V), vs = [.ref a, v] ∧ OexC K C ∧ PySem.W.findIn K (.ref C) f = some none ∧ H a = some (exo a C none) ∧
  ∀ dx, H dx = none → dx ≠ a → Q .non (upd (upd H dx (exd dx [(f, v)])) a (exo a C (some dx)))
/-- two fields -/
def spI2 (K : PySem.W.Frag) (C : Addr) (f g : Str) : Sp := fun vs H Q _ => ∃ (a : Addr) (v u : V), vs = [.ref a, v, u] ∧ OexC K C ∧ PySem.W.findIn K (.ref C) f = some none ∧ PySem.W.findIn K (.ref C) g = some none ∧ H a = some (exo a C none) ∧
  ∀ dx, H dx = none → dx ≠ a → Q .non (upd (upd (upd H dx (exd dx [(f, v)])) a (exo a C (some dx))) dx (exd dx [(g, u), (f, v)]))
/-- a class of refusals of the text -/
structure OwnX (P : Program) (w : World) (K : PySem.W.Frag) (mg : Str → Option Value) (base : Heap) (y : Str) (C : Addr) (ps : List Str) (sp : Sp) : Prop where
  at_ : mg y = some (.ref C)
  ox : OexC K C
  ini : ∃ fI fd, PySem.W.findIn K (.ref C) "__init__" = some (some (.ref fI)) ∧ PySem.W.typeIn K (.ref fI) = some (.type "function") ∧ Binds K fd ("self" :: ps) [] ∧ FnOk P w K mg base CX0 1 fI fd ("self" :: ps) sp
section
variable {X : Cx} {x : Tx} {W : Wz} {e e2 : Expr} {y : Str} {p pos pos2 : Pos} {ta : TA1} {C : Nat} {f g : Str}
def tRaise1 (C : Nat) (ns : List Str) (ta : TA1) : TS1 := fun D τ M => ta τ M (fun us M1 => us.length = ns.length ∧ D.ex (.node (.exc C ns) us) τ M1) (dex D τ)
theorem repX_new {H : Hp} {M : Mp} {us : List T} {vs : List V} {ns : List Str} {dx : Addr} (rm : RelM x H M) (rl : RepL x H M us vs) (hl : us.length = ns.length) (hd : H dx = none) :
    Ext M H M (upd H dx (.xd (ns.zip vs))) ∧ RelM x (upd H dx (.xd (ns.zip vs))) M ∧ RepX x (upd H dx (.xd (ns.zip vs))) M (.ref (x.cd C)) (some dx) (.node (.exc C ns) us) :=
  ⟨Ext.new hd, rm.new hd, rfl, dx, vs, rfl, rm.free hd, by rw [← rl.length]; exact hl.symm, upd_same, rl.ext (Ext.new hd)⟩
theorem zip1 (f : Str) (v : V) : [f].zip [v] = [(f, v)] := rfl
theorem sraise1 {ps : List Str} (O : OwnX X.prog X.w X.K X.mg X.base y (x.cd C) ps (spI1 X.K (x.cd C) f)) (hf : PySem.W.findIn X.K (.ref (x.cd C)) f = some none) (hr : Room 2 X.A) (hc : X.calm = true) (tk : Takes X W.W) (ha : PA1 X x W [e] ta) (hg : Gl X y := by rfl)
    (hdb : (y == ("__debug__" : Str)) = false := by decide) (he : starEach (e :: []) X.env = (false, eval e X.env) :: starEach [] X.env := by rfl) (hpl : (backTo pos (starEach [] X.env)).any (·.1) = false := by rfl) :
    PS1 X x W (.Raise (some (.Call (.Name y p) [e] [] pos)) none pos2) (tRaise1 C [f] ta) := by
  obtain ⟨fI, fd, iC, tI, hb, F1⟩ := O.ini
  refine imp_s (ps_raise hc tk (pmk_oex O.ox iC tI F1 hr hb .nil pass0 hg O.at_ ha hdb he hpl)) fun D σ H ⟨τ, M, D', rs, rm, h, sc⟩ => ?_
  refine bindA rs rm h (sc.ec rs) fun us M1 vs H1 e1 rs1 rm1 r1 h1 => ?_
  obtain ⟨hl, h1⟩ := h1
  match us, hl, r1 with
  | [u], _, r1 =>
    unfold RepL at r1
    obtain ⟨v, ws, rfl, r2, r3⟩ := r1
    rw [RepL.nil_iff.mp r3]
    refine ⟨(by show 1 ≤ 1000; decide), fun a hA => ⟨a, v, rfl, O.ox, hf, upd_same, fun dx hd hne => ⟨rfl, dx, [(f, v)], upd_same, ?_, ?_, ?_⟩⟩⟩
    · rw [upd_ne hne, upd_same]
    · rw [upd_ne hne] at hd; exact hd
    · rw [upd_ne hne] at hd
      have eq : upd (del (upd (upd (upd H1 a (exo a (x.cd C) none)) dx (exd dx [(f, v)])) a (exo a (x.cd C) (some dx))) a) dx (.xd [(f, v)]) = upd H1 dx (.xd ([f].zip [v])) := by
        funext b
        by_cases hb : b = dx
        · subst hb; rw [upd_same, upd_same]; rfl
        · rw [upd_ne hb, upd_ne hb]
          by_cases hba : b = a
          · subst hba; rw [del_same]; exact hA.symm
          · rw [del_ne hba, upd_ne hba, upd_ne hb, upd_ne hba]
      rw [eq]
      obtain ⟨g1, g2, g3⟩ := repX_new (C := C) (ns := [f]) rm1 (RepL.cons r2 RepL.nil) rfl hd
      exact sc.ex _ τ M1 _ _ σ _ (e1.trans g1) (rs1.ext g1) g2 g3 h1
theorem sraise2 {ps : List Str} (O : OwnX X.prog X.w X.K X.mg X.base y (x.cd C) ps (spI2 X.K (x.cd C) f g)) (hf : PySem.W.findIn X.K (.ref (x.cd C)) f = some none) (hg' : PySem.W.findIn X.K (.ref (x.cd C)) g = some none) (hfg : f ≠ g) (hr : Room 2 X.A) (hc : X.calm = true) (tk : Takes X W.W) (ha : PA1 X x W [e, e2] ta)
    (hg : Gl X y := by rfl) (hdb : (y == ("__debug__" : Str)) = false := by decide) (he : starEach (e :: [e2]) X.env = (false, eval e X.env) :: starEach [e2] X.env := by rfl) (hpl : (backTo pos (starEach [e2] X.env)).any (·.1) = false := by rfl) :
    PS1 X x W (.Raise (some (.Call (.Name y p) [e, e2] [] pos)) none pos2) (fun D τ M => ta τ M (fun us M1 => us.length = 2 ∧ D.ex (.node (.exc C [g, f]) us.reverse) τ M1) (dex D τ)) := by
  obtain ⟨fI, fd, iC, tI, hb, F1⟩ := O.ini
  refine imp_s (ps_raise hc tk (pmk_oex O.ox iC tI F1 hr hb .nil pass0 hg O.at_ ha hdb he hpl)) fun D σ H ⟨τ, M, D', rs, rm, h, sc⟩ => ?_
  refine bindA rs rm h (sc.ec rs) fun us M1 vs H1 e1 rs1 rm1 r1 h1 => ?_
  obtain ⟨hl, h1⟩ := h1
  match us, hl, r1 with
  | [u, z], _, r1 =>
    unfold RepL at r1
    obtain ⟨v, ws, rfl, r2, r3⟩ := r1
    unfold RepL at r3
    obtain ⟨v', ws', rfl, r4, r5⟩ := r3
    rw [RepL.nil_iff.mp r5]
    refine ⟨(by show 2 ≤ 1000; decide), fun a hA => ⟨a, v, v', rfl, O.ox, hf, hg', upd_same, fun dx hd hne => ⟨rfl, dx, [(g, v'), (f, v)], ?_, upd_same, ?_, ?_⟩⟩⟩
    · rw [upd_ne (Ne.symm hne), upd_same]
    · rw [upd_ne hne] at hd; exact hd
    · rw [upd_ne hne] at hd
      have eq : upd (del (upd (upd (upd (upd H1 a (exo a (x.cd C) none)) dx (exd dx [(f, v)])) a (exo a (x.cd C) (some dx))) dx (exd dx [(g, v'), (f, v)])) a) dx (.xd [(g, v'), (f, v)]) = upd H1 dx (.xd ([g, f].zip [v', v])) := by
        funext b
        by_cases hb : b = dx
        · subst hb; rw [upd_same, upd_same]; rfl
        · rw [upd_ne hb, upd_ne hb]
          by_cases hba : b = a
          · subst hba; rw [del_same]; exact hA.symm
          · rw [del_ne hba, upd_ne hb, upd_ne hba, upd_ne hb, upd_ne hba]
      rw [eq]
      obtain ⟨g1, g2, g3⟩ := repX_new (C := C) (ns := [g, f]) rm1 (RepL.cons r4 (RepL.cons r2 RepL.nil)) rfl hd
      exact sc.ex _ τ M1 _ _ σ _ (e1.trans g1) (rs1.ext g1) g2 g3 h1
end
/-! ### try -/
/-- a clause: the class's value, the slot of its name, its suite's reading -/
structure Cls1 where
  c : Value
  o : Option Nat
  ts : Addr → Value → Option Addr → TS
def Ends.lose (D : Ends) : Option Nat → Ends
  | none => D
  | some i => { nx := fun σ H => D.nx (σ.set i none) H, rt := D.rt, bk := fun σ H => D.bk (σ.set i none) H, ct := fun σ H => D.ct (σ.set i none) H }
def put (o : Option Nat) (a : Addr) (σ : L2.St) : L2.St := match o with
  | none => σ
  | some i => σ.set i (some (.ref a))
def wGen (K : PySem.W.Frag) (Wout : WX) (D : Ends) : List Cls1 → WX
  | [] => Wout
  | k :: r => fun cls d σ H => ∃ b, PySem.W.exmOne K cls k.c = some b ∧ (b = true → ∀ a, H a = none → k.ts a cls d (Ends.lose D k.o) (put k.o a σ) H) ∧ (b = false → wGen K Wout D r cls d σ H)
inductive HdG (X : Cx) : List ExceptHandler → List Cls1 → Prop
  | nil : HdG X [] []
  | bare {y : Str} {c : Value} {ts : Addr → Value → Option Addr → TS} {b0 : Stmt} {su : List Stmt} {np pos' : Pos} {hds : List ExceptHandler} {l : List Cls1} (hc : Names X y c)
      (hsu : ∀ (a : Addr) (oe : Obj) (cls : Value) (d : Option Addr) (pn : List (Addr × Obj)), Zc cls d oe → (∃ vs, oe.data = .fields vs) → PSs (X.suite a ((a, oe) :: pn)) (b0 :: su) (ts a cls d)) (r : HdG X hds l) :
      HdG X (.ExceptHandler (some (.Name y np)) none (b0 :: su) pos' :: hds) (⟨c, none, ts⟩ :: l)
  | as_ {y n : Str} {i : Nat} {c : Value} {ts : Addr → Value → Option Addr → TS} {b0 : Stmt} {su : List Stmt} {np pos' : Pos} {hds : List ExceptHandler} {l : List Cls1} (hc : Names X y c) (hi : X.N[i]? = some n) (hln : X.env.kindOf n = some .local)
      (hsu : ∀ (a : Addr) (oe : Obj) (cls : Value) (d : Option Addr) (pn : List (Addr × Obj)), Zc cls d oe → (∃ vs, oe.data = .fields vs) → PSs (X.suite a ((a, oe) :: pn)) (b0 :: su) (ts a cls d)) (r : HdG X hds l) :
      HdG X (.ExceptHandler (some (.Name y np)) (some n) (b0 :: su) pos' :: hds) (⟨c, some i, ts⟩ :: l)
section
variable {X : Cx} {body : List Stmt} {hds : List ExceptHandler} {h0 : ExceptHandler} {l : List Cls1} {pos : Pos} {tb : WX → TS} {Wout : WX}
/-- clauses with names and without, one after another -/
theorem ps_try_gen (hs : X.stack = X.env :: X.outer) (hf : X.env.frame = some X.env.locals) (hN : X.N.Nodup) (tk : Takes X Wout)
    (hb : ∀ (V : WX) (pn : List (Addr × Obj)) (xe : Value → Shared → Prop), Takes (X.tr pn xe) V → PassesOwn (model X.prog X.w) X.A X.env xe → PSs (X.tr pn xe) body (tb V))
    (hh : HdG X (h0 :: hds) l) : PS X (.Try body (h0 :: hds) [] [] pos) (fun D σ H => tb (wGen X.K Wout D l) D σ H) := by
  refine ⟨fun pins s σ H D I rd => ?_⟩
  have ok := I.ok
  have frm : X.A.frames = some (X.env :: X.outer) := by rw [ok.frames, hs]
  have fall : ∀ {f : Flow} {s1 : Shared}, SP (X.tr (X.pn ++ pins) (fun e s₁ => wpAny (model X.prog X.w) X.A (noteFrame e X.env) (fun _ s₂ => wpAny (model X.prog X.w) X.A (setFlight e none) (fun _ s₃ => wpAny (model X.prog X.w) X.A (handleBy e X.env (h0 :: hds)) (SP X pins D) X.xe s₃) X.xe s₂) X.xe s₁)) [] D f s1 → SP X pins D f s1 := fun {f s1} q => by
    cases f with
    | next => obtain ⟨σ1, H1, J, q⟩ := q; exact ⟨σ1, H1, J.ofTry ok, q⟩
    | brk => obtain ⟨σ1, H1, J, q⟩ := q; exact ⟨σ1, H1, J.ofTry ok, q⟩
    | cont => obtain ⟨σ1, H1, J, q⟩ := q; exact ⟨σ1, H1, J.ofTry ok, q⟩
    | ret u => obtain ⟨v, σ1, H1, J, r, q⟩ := q; exact ⟨v, σ1, H1, J.ofTry ok, r, q⟩
  refine wpAny_Try_except (wpAny_mono ((hb (wGen X.K Wout D l) (X.pn ++ pins) _ (fun u s' up => ?_) PassesOwn.looking).run [] s σ H D (I.toTry _) rd) (fun f s1 q => ?_) fun _ _ z => z)
  · obtain ⟨a, B, sI, pins', σ1, H1, cls, d, rfl, J0, nb, up, sky, na, os, ag, w⟩ := up
    have J : Inv X pins σ1 H1 sI := J0.ofTry ok
    show wpAny (model X.prog X.w) X.A (noteFrame (.ref a) X.env) _ _ _
    refine Sky.land Zc.steady frm hf (by rw [← hs]; exact sky) fun h3 fl up3 => ?_
    have J3 : Inv X pins σ1 H1 { s' with heap := h3 } := J.landed nb fl.1 (up.trans up3) os ag
    obtain ⟨oe, vs, he, hz, hd⟩ := fl.there
    have nfr : a ∉ frs (X.env :: X.outer) := fun hm => by
      obtain ⟨_, o', e', hnf⟩ := fl.2.2.1.mem hm
      rw [he] at e'; cases e'
      exact hnf _ hd
    have nL : a ≠ X.env.locals := fun z => nfr (List.mem_filterMap.mpr ⟨X.env, List.mem_cons_self, by rw [hf, z]⟩)
    have nF : a ∉ X.fs := fun hm => by
      obtain ⟨e, q1, q2⟩ := List.mem_filterMap.mp hm
      exact nfr (List.mem_filterMap.mpr ⟨e, List.mem_cons_of_mem _ q1, q2⟩)
    have S3 := J3.suite he hd na nL nF
    -- one clause's test, whatever it names
    have ask : ∀ {y : Str} {c : Value} {np : Pos} {b : Bool} {Q : Value → Shared → Prop} {E : Value → Shared → Prop}, Names X y c → Q c { s' with heap := h3 } → wpAny (model X.prog X.w) (X.A.mark (some (.ref a))) (eval (.Name y np) X.env) Q E { s' with heap := h3 } := fun {y c np b Q E} nm q => by
      obtain ⟨hg, hdb, hm | ⟨hm, hv, hn⟩⟩ := nm
      · exact ld_glob (X := X.suite a ((a, oe) :: (X.pn ++ pins))) S3 hg hm q hdb
      · exact ld_blt (X := X.suite a ((a, oe) :: (X.pn ++ pins))) S3 hg hm hv q hn hdb
    have LT : PySem.W.Looks (model X.prog X.w) h3 (typeOf (.ref a)) cls := fun A Q E s k q => wpAny_typeOf_ref (k _ _ he) (by rw [hz.1]; exact q)
    -- the suite is entered: the flight ends, the object is pinned
    have land : ∀ {Q : Unit → Shared → Prop} {E : Value → Shared → Prop}, (∀ h4 oe4, h4.get? a = some oe4 → Zc cls d oe4 → (∃ vs, oe4.data = .fields vs) → Inv (X.suite a ((a, oe4) :: (X.pn ++ pins))) [] σ1 H1 { s' with heap := h4 } → Q () { s' with heap := h4 }) →
        wpAny (model X.prog X.w) (X.A.mark (some (.ref a))) (setFlight (.ref a) none) Q E { s' with heap := h3 } := fun {Q E} k => by
      refine HandSPX.lands_againZ fl fun h4 fl4 up4 => ?_
      have J4 : Inv X pins σ1 H1 { s' with heap := h4 } := J.landed nb fl4.1 ((up.trans up3).trans up4) os ag
      obtain ⟨oe4, vs4, he4, hz4, hd4⟩ := fl4.there
      exact k h4 oe4 he4 hz4 ⟨_, hd4⟩ (J4.suite he4 hd4 na nL nF)
    have go : ∀ {hk : List ExceptHandler} {lk : List Cls1}, HdG X hk lk → wGen X.K Wout D lk cls d σ1 H1 → wpAny (model X.prog X.w) X.A (handleBy (.ref a) X.env hk) (SP X pins D) X.xe { s' with heap := h3 } := by
      intro hk lk hyp
      induction hyp with
      | nil =>
        intro w
        refine wpAny_handleBy_nil ?_
        obtain ⟨_, _, _, oe', vs', T, oT, ts', he', _, hd', hf1, _⟩ := id fl
        unfold PySem.passOn
        refine wpAny_bind (wpAny_field he' hd' hf1 ?_)
        rw [if_neg (show ¬ ((Value.ref T == Value.none) = true) from by simp)]
        have on : wpAny (model X.prog X.w) X.A (setFlight (.ref a) X.env.frame) (fun _ s4 => wpAny (model X.prog X.w) X.A (throw (.ref a) : Sem Flow) (SP X pins D) X.xe s4) X.xe { s' with heap := h3 } := by
          rw [hf]
          exact HandSPX.setFlight_upZ fl fun h4 hh4 up4 => wpAny_throw (tk _ _ ⟨a, B, sI, pins, σ1, H1, cls, d, rfl, J, nb, (up.trans up3).trans up4, .inr (.inr (by rw [hs]; exact hh4)), na, os, ag, w⟩)
        first
          | exact wpAny_bind (wpAny_pure (wpAny_bind on))
          | exact wpAny_bind on
      | @bare y c ts b0 su np pos' hds' l' nm hsu r ih =>
        intro w
        obtain ⟨b, hb1, yes, no⟩ := w
        refine wpAny_handleBy_cons (codeAny_handlers_test ?_) (by intro q; cases q)
        have LM := PySem.W.exm_one (M := model X.prog X.w) (J3.kIn) LT hb1
        refine ask (b := b) nm (LM.here ?_)
        cases b with
        | true =>
          refine codeAny_handlers_suite (land fun h4 oe4 he4 hz4 hd4 S4 => ?_)
          refine wpAny_mono ((hsu a oe4 cls d (X.pn ++ pins) hz4 hd4).run [] _ _ H1 _ S4 (yes rfl a na)) (fun f s6 q => ?_) fun _ _ z => z.elim
          cases f with
          | next => obtain ⟨σ6, H6, S6, q6⟩ := q; exact ⟨_, _, S6.unsuite ok, q6⟩
          | brk => obtain ⟨σ6, H6, S6, q6⟩ := q; exact ⟨_, _, S6.unsuite ok, q6⟩
          | cont => obtain ⟨σ6, H6, S6, q6⟩ := q; exact ⟨_, _, S6.unsuite ok, q6⟩
          | ret u => obtain ⟨v6, σ6, H6, S6, r6, q6⟩ := q; exact ⟨_, _, _, S6.unsuite ok, r6, q6⟩
        | false => exact ih (no rfl)
      | @as_ y n i c ts b0 su np pos' hds' l' nm hi hln hsu r ih =>
        intro w
        obtain ⟨b, hb1, yes, no⟩ := w
        refine wpAny_handleBy_cons (codeAny_handlers_test ?_) (by intro q; cases q)
        have LM := PySem.W.exm_one (M := model X.prog X.w) (J3.kIn) LT hb1
        refine ask (b := b) nm (LM.here ?_)
        cases b with
        | true =>
          refine codeAny_handlers_suite_as (land fun h4 oe4 he4 hz4 hd4 S4 => ?_)
          refine store_ok (X := X.suite a ((a, oe4) :: (X.pn ++ pins))) (v := .ref a) S4 hN hi (.inl hln) rfl (fun s5 S5 => ?_) (.inr hln)
          refine wpAny_mono ((hsu a oe4 cls d (X.pn ++ pins) hz4 hd4).run [] s5 _ H1 _ S5 (yes rfl a na)) (fun f s6 q => ?_) fun _ _ z => z.elim
          have gone : ∀ {σ6 : L2.St} {H6 : Hp} {Q : Shared → Prop}, Inv (X.suite a ((a, oe4) :: (X.pn ++ pins))) [] σ6 H6 s6 → (∀ s7, Inv X pins (σ6.set i none) H6 s7 → Q s7) → wpAny (model X.prog X.w) X.A (do bindName X.env n .none; unbindBehindTheSuite X.env n pos') (fun _ s7 => Q s7) X.xe s6 :=
            fun {σ6 H6 Q} S6 k => gone_ok (S6.unsuite ok) hN hi hln k
          cases f with
          | next => obtain ⟨σ6, H6, S6, q6⟩ := q; exact gone S6 fun s7 J7 => ⟨_, _, J7, q6⟩
          | brk => obtain ⟨σ6, H6, S6, q6⟩ := q; exact gone S6 fun s7 J7 => ⟨_, _, J7, q6⟩
          | cont => obtain ⟨σ6, H6, S6, q6⟩ := q; exact gone S6 fun s7 J7 => ⟨_, _, J7, q6⟩
          | ret u => obtain ⟨v6, σ6, H6, S6, r6, q6⟩ := q; exact gone S6 fun s7 J7 => ⟨_, _, _, J7, r6, q6⟩
        | false => exact ih (no rfl)
    exact go hh w
  · cases f with
    | next => obtain ⟨σ1, H1, J, q⟩ := q; exact wpAny_execs_nil ⟨σ1, H1, J.ofTry ok, q⟩
    | brk => exact fall q
    | cont => exact fall q
    | ret u => exact fall q
end
end TL

set_option Elab.async false
set_option linter.all false
set_option maxRecDepth 100000
set_option maxHeartbeats 1000000
/-! TL9: try on trees, a refusal's fields; the initializers of refusals. -/
namespace TL
open PySem PySem.Spec PyProof.Rows L2
structure Ct1 where
  hit : Nat → Option Bool
  o : Option Nat
  ts : Addr → T → TS1
def loseT (D : TEnds) : Option Nat → TEnds
  | none => { D with ex := fun _ _ _ => False }
  | some i => { nx := fun τ M => D.nx (τ.set i none) M, rt := D.rt, bk := fun τ M => D.bk (τ.set i none) M, ct := fun τ M => D.ct (τ.set i none) M, ex := fun _ _ _ => False }
def putT (o : Option Nat) (a : Addr) (τ : TSt) : TSt := match o with
  | none => τ
  | some i => τ.set i (some (.obj a))
def tryx (D : TEnds) : List Ct1 → T → TSt → Mp → Prop
  | [], t, τ, M => D.ex t τ M
  | k :: r, t, τ, M => match t with
    | .node (.exc C ns) us => (match k.hit C with
      | some true => ∀ a, M a = none → k.ts a (.node (.exc C ns) us) (loseT D k.o) (putT k.o a τ) M
      | some false => tryx D r (.node (.exc C ns) us) τ M
      | none => False)
    | _ => False
def tTry1 (tb : TS1) (cl : List Ct1) : TS1 := fun D τ M => tb { D with ex := tryx D cl } τ M
def Wsu (x : Tx) (W : Wz) (C : Nat) (ns : List Str) (us : List T) (dd : Addr) : Wz where
  W := fun _ _ _ _ => False
  Z := fun H M => W.Z H M ∧ RepX x H M (.ref (x.cd C)) (some dd) (.node (.exc C ns) us)
  Zs := fun {M H M1 H1} e z => ⟨W.Zs e z.1, by
    obtain ⟨q1, d', vs, q2, q3, q4, q5, q6⟩ := z.2
    exact ⟨q1, d', vs, q2, (e d' _ q3 q5).2, q4, (e d' _ q3 q5).1, q6.ext e⟩⟩
def tsH (x : Tx) (W : Wz) (hit : Nat → Option Bool) (ts : Addr → T → TS1) : Addr → Value → Option Addr → TS := fun a cls d D σ H => ∃ C ns us dd, hit C = some true ∧ cls = .ref (x.cd C) ∧ d = some dd ∧ liftS x (Wsu x W C ns us dd) (ts a (.node (.exc C ns) us)) D σ H
inductive HdT (X : Cx) (x : Tx) (W : Wz) : List ExceptHandler → List Ct1 → Prop
  | nil : HdT X x W [] []
  | bare {y : Str} {c : Value} {hit : Nat → Option Bool} {ts : Addr → T → TS1} {b0 : Stmt} {su : List Stmt} {np pos' : Pos} {hds : List ExceptHandler} {l : List Ct1} (hc : Names X y c) (hh : ∀ C b, hit C = some b → PySem.W.exmOne X.K (.ref (x.cd C)) c = some b)
      (hsu : ∀ (a : Addr) (oe : Obj) (C : Nat) (ns : List Str) (us : List T) (dd : Addr) (pn : List (Addr × Obj)), hit C = some true → Zc (.ref (x.cd C)) (some dd) oe → (∃ vs, oe.data = .fields vs) → PSs1 (X.suite a ((a, oe) :: pn)) x (Wsu x W C ns us dd) (b0 :: su) (ts a (.node (.exc C ns) us)))
      (r : HdT X x W hds l) : HdT X x W (.ExceptHandler (some (.Name y np)) none (b0 :: su) pos' :: hds) (⟨hit, none, ts⟩ :: l)
  | as_ {y n : Str} {i : Nat} {c : Value} {hit : Nat → Option Bool} {ts : Addr → T → TS1} {b0 : Stmt} {su : List Stmt} {np pos' : Pos} {hds : List ExceptHandler} {l : List Ct1} (hc : Names X y c) (hh : ∀ C b, hit C = some b → PySem.W.exmOne X.K (.ref (x.cd C)) c = some b)
      (hi : X.N[i]? = some n) (hln : X.env.kindOf n = some .local)
      (hsu : ∀ (a : Addr) (oe : Obj) (C : Nat) (ns : List Str) (us : List T) (dd : Addr) (pn : List (Addr × Obj)), hit C = some true → Zc (.ref (x.cd C)) (some dd) oe → (∃ vs, oe.data = .fields vs) → PSs1 (X.suite a ((a, oe) :: pn)) x (Wsu x W C ns us dd) (b0 :: su) (ts a (.node (.exc C ns) us)))
      (r : HdT X x W hds l) : HdT X x W (.ExceptHandler (some (.Name y np)) (some n) (b0 :: su) pos' :: hds) (⟨hit, some i, ts⟩ :: l)
section
variable {X : Cx} {x : Tx} {W : Wz} {body : List Stmt} {hds : List ExceptHandler} {h0 : ExceptHandler} {cl : List Ct1} {pos : Pos} {tb : TS1}
theorem suite_ss {hit : Nat → Option Bool} {su : List Stmt} {ts : Addr → T → TS1} (hsu : ∀ (a : Addr) (oe : Obj) (C : Nat) (ns : List Str) (us : List T) (dd : Addr) (pn : List (Addr × Obj)), hit C = some true → Zc (.ref (x.cd C)) (some dd) oe → (∃ vs, oe.data = .fields vs) → PSs1 (X.suite a ((a, oe) :: pn)) x (Wsu x W C ns us dd) su (ts a (.node (.exc C ns) us))) :
    ∀ (a : Addr) (oe : Obj) (cls : Value) (d : Option Addr) (pn : List (Addr × Obj)), Zc cls d oe → (∃ vs, oe.data = .fields vs) → PSs (X.suite a ((a, oe) :: pn)) su (tsH x W hit ts a cls d) := fun a oe cls d pn hz hd => ⟨fun pins s σ H D I ⟨C, ns, us, dd, hh, e1, e2, h⟩ => by
  subst e1 e2
  exact (hsu a oe C ns us dd pn hh hz hd).run pins s σ H D I h⟩
/-- the clauses of the layer below -/
theorem HdT.low : ∀ {hds : List ExceptHandler} {cl : List Ct1}, HdT X x W hds cl → ∃ l : List Cls1, HdG X hds l ∧
    ∀ (D' : TEnds) (D : Ends) (M : Mp) (H : Hp), SC x W M H D' D → ∀ t τ1 M1 cls d σ1 H1, Ext M H M1 H1 → RelS x W H1 M1 σ1 τ1 → RelM x H1 M1 → RepX x H1 M1 cls d t → tryx D' cl t τ1 M1 → wGen X.K W.W D l cls d σ1 H1
  | _, _, .nil => ⟨[], .nil, fun D' D M H sc t τ1 M1 cls d σ1 H1 e rs rm rx h => sc.ex t τ1 M1 cls d σ1 H1 e rs rm rx h⟩
  | _, _, .bare (c := c) (hit := hit) (ts := ts) hc hh hsu r => by
    obtain ⟨l, g, k⟩ := r.low
    refine ⟨_, .bare hc (suite_ss hsu) g, fun D' D M H sc t τ1 M1 cls d σ1 H1 e rs rm rx h => ?_⟩
    unfold tryx at h
    split at h
    · rename_i C ns us
      obtain ⟨q1, dd, vs, q2, q3, q4, q5, q6⟩ := id rx
      split at h
      · rename_i hb
        refine ⟨true, by rw [q1]; exact hh C true hb, fun _ a ha => ⟨C, ns, us, dd, hb, q1, q2, τ1, M1, loseT D' none, ⟨rs.1, rs.2.1, rs.2.2, by rw [← q1, ← q2]; exact rx⟩, rm, h a (rm.free ha), ?_⟩, fun z => by cases z⟩
        have sc1 := sc.ext e
        exact ⟨fun τ M2 σ H2 e2 rs2 rm2 => sc1.nx τ M2 σ H2 e2 ⟨rs2.1, rs2.2.1, rs2.2.2.1⟩ rm2, sc1.rt, fun τ M2 σ H2 e2 rs2 rm2 => sc1.bk τ M2 σ H2 e2 ⟨rs2.1, rs2.2.1, rs2.2.2.1⟩ rm2, fun τ M2 σ H2 e2 rs2 rm2 => sc1.ct τ M2 σ H2 e2 ⟨rs2.1, rs2.2.1, rs2.2.2.1⟩ rm2, fun _ _ _ _ _ _ _ _ _ _ _ q => q.elim⟩
      · rename_i hb
        exact ⟨false, by rw [q1]; exact hh C false hb, (fun z => by cases z), fun _ => k D' D M H sc _ τ1 M1 cls d σ1 H1 e rs rm rx h⟩
      · exact h.elim
    · exact h.elim
  | _, _, .as_ (i := i) (c := c) (hit := hit) (ts := ts) hc hh hi hln hsu r => by
    obtain ⟨l, g, k⟩ := r.low
    refine ⟨_, .as_ hc hi hln (suite_ss hsu) g, fun D' D M H sc t τ1 M1 cls d σ1 H1 e rs rm rx h => ?_⟩
    unfold tryx at h
    split at h
    · rename_i C ns us
      obtain ⟨q1, dd, vs, q2, q3, q4, q5, q6⟩ := id rx
      split at h
      · rename_i hb
        refine ⟨true, by rw [q1]; exact hh C true hb, fun _ a ha => ⟨C, ns, us, dd, hb, q1, q2, putT (some i) a τ1, M1, loseT D' (some i), ?_, rm, h a (rm.free ha), ?_⟩, fun z => by cases z⟩
        · have := rs.set (t := .obj a) (v := .ref a) rep_obj_ i
          exact ⟨this.1, this.2.1, this.2.2, by rw [← q1, ← q2]; exact rx⟩
        · have sc1 := sc.ext e
          have un : ∀ {H2 M2 σ τ}, RelS x (Wsu x W C ns us dd) H2 M2 σ τ → RelS x W H2 M2 (σ.set i none) (τ.set i none) := fun {H2 M2 σ τ} rs2 => RelS.unset (W := W) ⟨rs2.1, rs2.2.1, rs2.2.2.1⟩ i
          exact ⟨fun τ M2 σ H2 e2 rs2 rm2 => sc1.nx _ M2 _ H2 e2 (un rs2) rm2, sc1.rt, fun τ M2 σ H2 e2 rs2 rm2 => sc1.bk _ M2 _ H2 e2 (un rs2) rm2, fun τ M2 σ H2 e2 rs2 rm2 => sc1.ct _ M2 _ H2 e2 (un rs2) rm2, fun _ _ _ _ _ _ _ _ _ _ _ q => q.elim⟩
      · rename_i hb
        exact ⟨false, by rw [q1]; exact hh C false hb, (fun z => by cases z), fun _ => k D' D M H sc _ τ1 M1 cls d σ1 H1 e rs rm rx h⟩
      · exact h.elim
    · exact h.elim
theorem stry1 (hs : X.stack = X.env :: X.outer) (hf : X.env.frame = some X.env.locals) (hN : X.N.Nodup) (tk : Takes X W.W)
    (hb : ∀ (V : WX) (pn : List (Addr × Obj)) (xe : Value → Shared → Prop), Takes (X.tr pn xe) V → PassesOwn (model X.prog X.w) X.A X.env xe → PSs1 (X.tr pn xe) x ⟨V, W.Z, W.Zs⟩ body tb)
    (hh : HdT X x W (h0 :: hds) cl) : PS1 X x W (.Try body (h0 :: hds) [] [] pos) (tTry1 tb cl) := by
  obtain ⟨l, g, k⟩ := hh.low
  refine imp_s (ps_try_gen hs hf hN tk (tb := fun V => liftS x ⟨V, W.Z, W.Zs⟩ tb) hb g) fun D σ H ⟨τ, M, D', rs, rm, h, sc⟩ => ?_
  exact ⟨τ, M, { D' with ex := tryx D' cl }, rs, rm, h, ⟨sc.nx, sc.rt, sc.bk, sc.ct, fun t τ1 M1 cls d σ1 H1 e rs1 rm1 rx q => k D' D M H sc t τ1 M1 cls d σ1 H1 e rs1 rm1 rx q⟩⟩
end
/-! ### a refusal's field, in a suite -/
structure FldX (K : PySem.W.Frag) (C : Addr) (f : Str) : Prop where
  ga : PySem.W.findIn K (.ref C) "__getattribute__" = some (some (.builtin "BaseException.__getattribute__"))
  gg : PySem.W.findIn K (.ref C) "__getattr__" = some none
  exC : PySem.W.subIn K (.ref C) (.type "BaseException") = some true
  hd : PySem.W.hasDictIn K C = true
  no : PySem.W.findIn K (.ref C) f = some none
section
variable {X : Cx} {x : Tx} {W : Wz}
theorem zip_get {H : Hp} {M : Mp} {f : Str} {t : T} : ∀ {ns : List Str} {us : List T} {vs : List V}, RepL x H M us vs → (ns.zip us).lookup f = some t → ∃ v, (ns.zip vs).lookup f = some v ∧ Rep x H M t v
  | [], us, vs, r, h => by simp at h
  | n :: ns, [], vs, r, h => by simp at h
  | n :: ns, u :: us, vs, r, h => by
    unfold RepL at r
    obtain ⟨v, ws, rfl, r1, r2⟩ := r
    rw [List.zip_cons_cons, List.lookup_cons] at h ⊢
    cases q : f == n with
    | true =>
      rw [q] at h
      cases h
      exact ⟨v, rfl, r1⟩
    | false =>
      rw [q] at h
      exact zip_get r2 h
/-- e.f: the field of the refusal that is handled -/
def tExF1 (i : Nat) (a : Addr) (xt : T) (f : Str) : TE1 := fun τ M Q _ => τ[i]? = some (some (.obj a)) ∧ match xt with
  | .node (.exc _ ns) us => (match (ns.zip us).lookup f with
    | some t => Q t M
    | none => False)
  | _ => False
theorem pexf1 {a : Addr} {oe : Obj} {C : Nat} {ns : List Str} {us : List T} {dd : Addr} {pn : List (Addr × Obj)} {i : Nat} {n f : Str} {p pos : Pos} (F : FldX X.K (x.cd C) f) (hz : Zc (.ref (x.cd C)) (some dd) oe) (hd : ∃ vs, oe.data = .fields vs)
    (hN : X.N[i]? = some n := by rfl) (hv : Vis X.env.scope n := by first | exact Or.inl rfl | exact Or.inr (Or.inl rfl) | exact Or.inr (Or.inr rfl)) (hdb : (n == ("__debug__" : Str)) = false := by decide) (hcd : (n == ("__classdict__" : Str)) = false := by decide)
    (hb : attributeBase (.Name n p) f X.env (eval (.Name n p) X.env) = eval (.Name n p) X.env := by rfl) :
    PE1 (X.suite a ((a, oe) :: pn)) x (Wsu x W C ns us dd) (.Attribute (.Name n p) f pos) (tExF1 i a (.node (.exc C ns) us) f) := by
  refine ⟨fun pins s σ H Q I ⟨τ, M, Q', E', rs, rm, h, q, ec⟩ => ?_⟩
  obtain ⟨h1, h2⟩ := h
  obtain ⟨v, e1, rv⟩ := rs.2.1 i _ h1
  rw [rep_obj rv] at e1
  obtain ⟨_, d', vs, q2, q3, q4, q5, q6⟩ := rs.2.2.2
  cases q2
  dsimp only at h2
  split at h2
  · rename_i t ht
    obtain ⟨w, e2, rw'⟩ := zip_get q6 ht
    have nm := (pe_var (X := X.suite a ((a, oe) :: pn)) (i := i) (pos := p) hN hv hdb hcd).run pins s σ H (fun u H1 => u = .ref a ∧ H1 = H) I ⟨_, e1, rfl, rfl⟩
    refine attr_of hb (thn nm fun u s1 ⟨y, H1, I1, ry, ey, eH⟩ => ?_)
    subst ey eH
    obtain rfl : u = Value.ref a := ry
    obtain ⟨pa, _⟩ := I1.pin (a, oe) (List.mem_append_left _ List.mem_cons_self)
    obtain ⟨fv, hfv⟩ := hd
    obtain ⟨mA, hns, hr⟩ : ObjOk X.prog X.w H1 s1.heap dd (.xd (ns.zip vs)) := I1.hok dd _ q5
    obtain ⟨od, ho, hl⟩ := lookIn_ns hns
    obtain ⟨u', hu, ru⟩ := RelO.some_of (v := w) (o := mA f) (by rw [← e2]; exact hr f)
    have J : PySem.W.InstAt s1.heap a oe (x.cd C) (some od) := ⟨pa, hz.1, by unfold PySem.W.notCls; rw [hfv] <;> rfl, by rw [hz.2]; exact ho⟩
    exact HandSPX.exc_get I1.kIn J F.ga F.gg F.exC (PySem.W.findObj_own F.hd F.no rfl (by rw [hl, hu])) (handed_of ru) ⟨w, H1, I1.tok _, ru, q t M w H1 .refl rm rw' h2⟩
  · exact h2.elim
end
/-! ### the initializers of refusals keep their promises -/
section
variable {P : Program} {w : World} {K : PySem.W.Frag} {mg : Str → Option Value} {base : Heap}
theorem init1_ok {st : Stmt} {f C : Addr} {fd : FuncData} {qual n msg : Str} {CT : Addr} {p1 p2 p3 p4 p5 p6 p7 p8 p9 p10 : Pos} {j : Nat} (F : Fun K "__init__" qual st f fd) (S : FnScope ["self", n] ["self", n] (defScope st)) (T : TopX K mg "TimesError" CT)
    (hb : defBody st = [.Expr (.Call (.Attribute (.Name "TimesError" p1) "__init__" p2) [.Name "self" p3, .Constant (.str msg) j p4] [] p5) p6, .Assign [.Attribute (.Name "self" p7) n p8] (.Name n p9) p10])
    (hg : (defScope st).names.lookup ("TimesError" : Str) = some NameKind.globalImplicit) (hv : (defScope st).names.lookup n = some NameKind.local) (hsf : (defScope st).names.lookup ("self" : Str) = some NameKind.local) (hn : (n == ("__debug__" : Str)) = false) (hn2 : (n == ("__classdict__" : Str)) = false)
    (hc : ∀ env : Env, ∃ pl : Sem Bool, eval (.Call (.Attribute (.Name "TimesError" p1) "__init__" p2) [.Name "self" p3, .Constant (.str msg) j p4] [] p5) env = (do
      let cv ← eval (.Name "TimesError" p1) env
      standAt p2.atName
      let (f, first) ← holding [cv] (getMethod cv "__init__" pl)
      callWith p5 f first (backTo p5 (starEach [.Name "self" p3, .Constant (.str msg) j p4] env)) (backToKw p5 (keywordEach [] env)))) :
    FnOk P w K mg base CX0 1 f fd ["self", n] (spI1 K C n) := by
  refine F.ok S (fun vs H Q E h => ?_) (fun cdv A outer s H vs Q E hr h => ?_)
  · obtain ⟨a, v, rfl, _⟩ := h
    rfl
  · obtain ⟨a, v, rfl, ox, no, ha, k⟩ := h
    rw [hb]
    refine ⟨_, pss_cons (ps_expr (pe_topinit T (pa_cons (pe_var (i := 0) rfl (.inl hsf)) (pa_cons pe_str pa_nil)) hg (hc := (hc _).choose_spec))) (pss_one (ps_ost (pe_var (i := 0) rfl (.inl hsf)) (pe_var (i := 1) rfl (.inl hv) hn hn2))), ?_⟩
    refine ⟨_, rfl, a, C, [.str msg], rfl, (by show 1 ≤ 1000; omega), ox, ha, _, rfl, _, rfl, a, C, rfl, ox, no, .inl ⟨ha, fun dx hd hne => k dx hd hne⟩⟩
theorem init2_ok {st : Stmt} {f C : Addr} {fd : FuncData} {qual n m msg : Str} {CT : Addr} {p1 p2 p3 p4 p5 p6 p7 p8 p9 p10 p11 p12 p13 : Pos} {j : Nat} (F : Fun K "__init__" qual st f fd) (S : FnScope ["self", n, m] ["self", n, m] (defScope st)) (T : TopX K mg "TimesError" CT)
    (hb : defBody st = [.Expr (.Call (.Attribute (.Name "TimesError" p1) "__init__" p2) [.Name "self" p3, .Constant (.str msg) j p4] [] p5) p6, .Assign [.Attribute (.Name "self" p7) n p8] (.Name n p9) p10, .Assign [.Attribute (.Name "self" p11) m p12] (.Name m p13) p14])
    (hg : (defScope st).names.lookup ("TimesError" : Str) = some NameKind.globalImplicit) (hv : (defScope st).names.lookup n = some NameKind.local) (hv2 : (defScope st).names.lookup m = some NameKind.local) (hsf : (defScope st).names.lookup ("self" : Str) = some NameKind.local) (hn : (n == ("__debug__" : Str)) = false) (hn2 : (n == ("__classdict__" : Str)) = false)
    (hm : (m == ("__debug__" : Str)) = false) (hm2 : (m == ("__classdict__" : Str)) = false)
    (hc : ∀ env : Env, ∃ pl : Sem Bool, eval (.Call (.Attribute (.Name "TimesError" p1) "__init__" p2) [.Name "self" p3, .Constant (.str msg) j p4] [] p5) env = (do
      let cv ← eval (.Name "TimesError" p1) env
      standAt p2.atName
      let (f, first) ← holding [cv] (getMethod cv "__init__" pl)
      callWith p5 f first (backTo p5 (starEach [.Name "self" p3, .Constant (.str msg) j p4] env)) (backToKw p5 (keywordEach [] env)))) :
    FnOk P w K mg base CX0 1 f fd ["self", n, m] (spI2 K C n m) := by
  refine F.ok S (fun vs H Q E h => ?_) (fun cdv A outer s H vs Q E hr h => ?_)
  · obtain ⟨a, v, u, rfl, _⟩ := h
    rfl
  · obtain ⟨a, v, u, rfl, ox, no, no2, ha, k⟩ := h
    rw [hb]
    refine ⟨_, pss_cons (ps_expr (pe_topinit T (pa_cons (pe_var (i := 0) rfl (.inl hsf)) (pa_cons pe_str pa_nil)) hg (hc := (hc _).choose_spec))) (pss_cons (ps_ost (pe_var (i := 0) rfl (.inl hsf)) (pe_var (i := 1) rfl (.inl hv) hn hn2)) (pss_one (ps_ost (pe_var (i := 0) rfl (.inl hsf)) (pe_var (i := 2) rfl (.inl hv2) hm hm2)))), ?_⟩
    refine ⟨_, rfl, a, C, [.str msg], rfl, (by show 1 ≤ 1000; omega), ox, ha, _, rfl, _, rfl, a, C, rfl, ox, no, .inl ⟨ha, fun dx hd hne => ?_⟩⟩
    refine ⟨_, rfl, _, rfl, a, C, rfl, ox, no2, .inr ⟨dx, [(n, v)], upd_same, ?_, (by show 1 ≤ 900; decide), k dx hd hne⟩⟩
    rw [upd_ne hne, upd_same]
end
end TL

set_option Elab.async false
set_option linter.all false
set_option maxRecDepth 100000
/-! TL10: repr; the built-ins' calls over trees. -/
namespace TL
open PySem PySem.Spec PyProof.Rows L2
/-! ### signs of shown texts -/
theorem ok_ofS (s : String) : PyData.strOk (Str.ofString s) = true := by
  rw [Str.ofString_eq_toList, ok_iff]
  intro c hc
  have : c ∈ s.toList.map Char.toNat := by simpa using hc
  obtain ⟨ch, _, rfl⟩ := List.mem_map.mp this
  have := ch.valid
  rcases this with h | h
  · show ch.val.toNat < _
    have h' : ch.val.toNat < 0xd800 := h
    omega
  · show ch.val.toNat < _
    have h' : ch.val.toNat < 0x110000 := h.2
    omega
theorem ok_dig (n : Nat) : ∀ c ∈ (Nat.toDigits 16 n).map Char.toNat, c < 0x110000 := by
  intro c hc
  obtain ⟨ch, _, rfl⟩ := List.mem_map.mp hc
  rcases ch.valid with h | h
  · show ch.val.toNat < _
    have h' : ch.val.toNat < 0xd800 := h
    omega
  · show ch.val.toNat < _
    have h' : ch.val.toNat < 0x110000 := h.2
    omega
theorem ok_reprChar {q c : Nat} (hq : q < 0x110000) (hc : c < 0x110000) : ∀ d ∈ Builtin.Str.reprChar q c, d < 0x110000 := by
  have hd := ok_dig c
  have hx : ∀ k : Nat, ∀ d ∈ List.replicate k 48 ++ (Nat.toDigits 16 c).map Char.toNat, d < 0x110000 := fun k d h => by
    rcases List.mem_append.mp h with h | h
    · rw [(List.mem_replicate.mp h).2]; decide
    · exact hd d h
  unfold Builtin.Str.reprChar
  dsimp only
  intro d h
  repeat' split at h
  all_goals first
    | (simp only [List.mem_cons, List.not_mem_nil, or_false] at h
       rcases h with rfl | rfl <;> omega)
    | (simp only [List.mem_cons, List.not_mem_nil, or_false] at h
       subst h
       omega)
    | (rcases List.mem_append.mp h with h | h
       · simp only [List.mem_cons, List.not_mem_nil, or_false] at h
         rcases h with rfl | rfl <;> omega
       · exact hx _ d h)
theorem ok_foldl {q : Nat} (hq : q < 0x110000) : ∀ (l : List Nat) (acc : Array Nat), (∀ c ∈ l, c < 0x110000) → (∀ c ∈ acc, c < 0x110000) → ∀ d ∈ l.foldl (fun out c => out ++ (Builtin.Str.reprChar q c).toArray) acc, d < 0x110000
  | [], acc, _, ha => ha
  | c :: r, acc, hl, ha => by
    rw [List.foldl_cons]
    refine ok_foldl hq r _ (fun d hd => hl d (List.mem_cons_of_mem _ hd)) fun d hd => ?_
    rcases Array.mem_append.mp hd with h | h
    · exact ha d h
    · exact ok_reprChar hq (hl c List.mem_cons_self) d (by simpa using h)
theorem ok_reprText {y : Str} (h : PyData.strOk y = true) : PyData.strOk (reprText y) = true := by
  rw [ok_iff] at *
  have hq : reprQuote y < 0x110000 := by
    unfold reprQuote
    split <;> decide
  intro d hd
  unfold reprText at hd
  have hd' : d ∈ (y.cps.foldl (fun out c => out ++ (Builtin.Str.reprChar (reprQuote y) c).toArray) #[reprQuote y]).push (reprQuote y) := Array.mem_def.mpr hd
  rw [Array.mem_push] at hd'
  rcases hd' with h1 | h1
  · rw [← Array.foldl_toList] at h1
    exact ok_foldl hq _ _ h (fun c hc => by simp at hc; subst hc; exact hq) d h1
  · subst h1; exact hq
theorem ok_textFrom : ∀ (ts : List Str) (k : Nat) (acc : Str), (∀ t ∈ ts, PyData.strOk t = true) → PyData.strOk acc = true → PyData.strOk (textFrom k acc ts) = true
  | [], _, _, _, ha => ha
  | t :: ts, k, acc, h, ha => by
    unfold textFrom
    refine ok_textFrom ts _ _ (fun u hu => h u (List.mem_cons_of_mem _ hu)) (ok_app (ok_app ha ?_) (h t List.mem_cons_self))
    exact ok_ofS _
theorem ok_join {sep : Str} (hs : PyData.strOk sep = true) : ∀ ts : List Str, (∀ t ∈ ts, PyData.strOk t = true) → PyData.strOk (Str.join sep ts) = true
  | [], _ => by first | exact ok_ofS "" | (unfold Str.join; rfl)
  | [t], h => h t List.mem_cons_self
  | t :: u :: ts, h => ok_app (ok_app (h t List.mem_cons_self) hs) (ok_join hs (u :: ts) fun v hv => h v (List.mem_cons_of_mem _ hv))
def okK : Key → Bool
  | .inl _ => true
  | .inr y => PyData.strOk y
mutual
def okD : PyData → Bool
  | .str y => PyData.strOk y
  | .list xs => okDs xs
  | .tuple xs => okDs xs
  | .dict kvs => okDk kvs
  | _ => true
def okDs : List PyData → Bool
  | [] => true
  | d :: ds => okD d && okDs ds
def okDk : List (PyData × PyData) → Bool
  | [] => true
  | (a, b) :: r => okD a && okD b && okDk r
end
mutual
theorem ok_shown : ∀ d : PyData, okD d = true → PyData.strOk d.shown = true
  | .none, _ => by unfold PyData.shown; exact ok_ofS _
  | .bool b, _ => by cases b <;> (unfold PyData.shown; exact ok_ofS _)
  | .int i, _ => by unfold PyData.shown; exact ok_ofS _
  | .str y, h => by unfold PyData.shown; exact ok_reprText h
  | .list xs, h => by
    unfold PyData.shown listText
    exact ok_app (ok_textFrom _ _ _ (ok_shownAll xs h) (ok_ofS _)) (ok_ofS _)
  | .tuple xs, h => by
    unfold PyData.shown tupleText
    exact ok_app (ok_app (ok_ofS _) (ok_join (ok_ofS _) _ (ok_shownAll xs h))) (ok_ofS _)
  | .dict xs, h => by
    unfold PyData.shown dictText
    exact ok_app (ok_app (ok_ofS _) (ok_join (ok_ofS _) _ (ok_shownKv xs h))) (ok_ofS _)
theorem ok_shownAll : ∀ ds : List PyData, okDs ds = true → ∀ t ∈ PyData.shownAll ds, PyData.strOk t = true
  | [], _, t, h => by unfold PyData.shownAll at h; cases h
  | d :: ds, q, t, h => by
    unfold okDs at q
    rw [Bool.and_eq_true] at q
    unfold PyData.shownAll at h
    rcases List.mem_cons.mp h with rfl | h
    · exact ok_shown d q.1
    · exact ok_shownAll ds q.2 t h
theorem ok_shownKv : ∀ ds : List (PyData × PyData), okDk ds = true → ∀ t ∈ PyData.shownKv ds, PyData.strOk t = true
  | [], _, t, h => by unfold PyData.shownKv at h; cases h
  | (a, b) :: ds, q, t, h => by
    unfold okDk at q
    rw [Bool.and_eq_true, Bool.and_eq_true] at q
    unfold PyData.shownKv at h
    rcases List.mem_cons.mp h with rfl | h
    · exact ok_app (ok_app (ok_shown a q.1.1) (ok_ofS _)) (ok_shown b q.1.2)
    · exact ok_shownKv ds q.2 t h
end
/-! ### a tree's data -/
def keyD : Key → PyData
  | .inl i => .int i
  | .inr y => .str y
def allX (f : T → Option PyData) : List T → Option (List PyData)
  | [] => some []
  | t :: ts => match f t, allX f ts with
    | some d, some ds => some (d :: ds)
    | _, _ => none
def nodeX (g : List T → Option (List PyData)) : NK → List T → Option PyData
  | .lst, ts => (g ts).map .list
  | .tup, ts => (g ts).map .tuple
  | .dic ks, ts => if ks.all okK then (g ts).map fun ds => .dict ((ks.map keyD).zip ds) else none
  | _, _ => none
def toX : Nat → Mp → T → Option PyData
  | _, _, .non => some .none
  | _, _, .bl b => some (.bool b)
  | _, _, .int i => some (.int i)
  | _, _, .str y => some (.str y)
  | n + 1, M, .obj a => match M a with
    | some (k, ts) => nodeX (allX (toX n M)) k ts
    | none => none
  | n + 1, M, .node k ts => nodeX (allX (toX n M)) k ts
  | _, _, _ => none
section
variable {X : Cx} {x : Tx} {pins : List (Addr × Obj)} {σ : L2.St} {H : Hp} {s : Shared} {M : Mp}
theorem pairs_key {P : Program} {w : World} {ks : List Key} : ∀ {es : List DictEntry} {kvs : List (Key × Value)}, Pairs (mixKind P w) es kvs → (kvs.map (·.1)).all okK = true → ∃ ds, ReadsAll s.heap (es.map (·.key)) ds [] ∧ ds = (kvs.map (·.1)).map keyD ∧ es.map (·.val) = kvs.map (·.2)
  | _, _, .nil, _ => ⟨[], .nil, rfl, rfl⟩
  | _, _, .cons (e := e) (kv := kv) (es := es) (kvs := kvs) h1 h2 h3, hk => by
    rw [List.map_cons, List.all_cons, Bool.and_eq_true] at hk
    obtain ⟨ds, r, e1, e2⟩ := pairs_key (ks := ks) h3 hk.2
    have e1' : Reads s.heap e.key (keyD kv.1) [] := by
      rcases keyIs_shape (k := kv.1) (v := e.key) h1 with ⟨i, t, q1, q2⟩ | ⟨i, t, q1, q2⟩
      · rw [q1, q2]; exact .int i t
      · rw [q1, q2]; exact .str i t
    refine ⟨keyD kv.1 :: ds, ReadsAll.cons (as := []) (bs := []) e1' r, by rw [e1]; rfl, ?_⟩
    rw [List.map_cons, List.map_cons, h2, e2]
structure NoSm (X : Cx) (x : Tx) : Prop where
  k : X.K = x.K
  b : ∃ o es ep, X.base.get? sysModules = some o ∧ o.data = .dict es ep
theorem reads_all {f : T → Option PyData} (hf : ∀ {t v u d}, Rep x H M t v → RelV v u → f t = some d → okD d = true ∧ ∃ as, Reads s.heap u d as ∧ sysModules ∉ as) : ∀ {ts : List T} {vs : List V} {us : List Value} {ds : List PyData}, RepL x H M ts vs → Vals vs us → allX f ts = some ds →
    okDs ds = true ∧ ds.length = ts.length ∧ ∃ as, ReadsAll s.heap us ds as ∧ sysModules ∉ as
  | [], vs, us, ds, r, q, h => by
    unfold RepL at r; subst r
    cases q
    unfold allX at h; cases h
    exact ⟨rfl, rfl, [], .nil, by simp⟩
  | t :: ts, vs, us, ds, r, q, h => by
    unfold RepL at r
    obtain ⟨v, ws, rfl, r1, r2⟩ := r
    cases q with
    | cons q1 q2 =>
      unfold allX at h
      split at h
      · rename_i d ds' e1 e2
        cases h
        obtain ⟨o1, as, a1, a2⟩ := hf r1 q1 e1
        obtain ⟨o2, hl, bs, b1, b2⟩ := reads_all hf r2 q2 e2
        refine ⟨by unfold okDs; rw [o1, o2]; rfl, by simp [hl], as ++ bs, .cons a1 b1, ?_⟩
        intro h
        rcases List.mem_append.mp h with h | h
        · exact a2 h
        · exact b2 h
      · cases h
theorem okDk_zip {ks : List Key} (hk : ks.all okK = true) : ∀ {ds : List PyData}, okDs ds = true → okDk ((ks.map keyD).zip ds) = true := by
  induction ks with
  | nil => intro ds _; rfl
  | cons k ks ih =>
    intro ds h
    rw [List.all_cons, Bool.and_eq_true] at hk
    cases ds with
    | nil => rfl
    | cons d ds =>
      unfold okDs at h
      rw [Bool.and_eq_true] at h
      rw [List.map_cons, List.zip_cons_cons]
      unfold okDk
      rw [ih hk.2 h.2, h.1]
      cases k with
      | inl i => rfl
      | inr y => rw [show okD (keyD (.inr y)) = PyData.strOk y from rfl, show PyData.strOk y = true from hk.1]; rfl
theorem map_fst_zip {α β γ : Type} (f : α → γ) : ∀ {a : List α} {b : List β}, a.length = b.length → (a.zip b).map (fun p => f p.1) = a.map f
  | [], [], _ => rfl
  | x :: a, y :: b, h => by simp [map_fst_zip f (a := a) (b := b) (by simpa using h)]
theorem map_snd_zip {α β : Type} : ∀ {a : List α} {b : List β}, a.length = b.length → (a.zip b).map (·.2) = b
  | [], [], _ => rfl
  | x :: a, y :: b, h => by simp [map_snd_zip (a := a) (b := b) (by simpa using h)]
theorem kv_split {ks : List Key} : ∀ {vs : List V} {ps : List (Key × Value)}, ks.length = vs.length → KV (ks.zip vs) ps → ps.map (·.1) = ks ∧ Vals vs (ps.map (·.2)) := by
  induction ks with
  | nil =>
    intro vs ps hl h
    cases vs with
    | nil => cases h; exact ⟨rfl, .nil⟩
    | cons _ _ => simp at hl
  | cons k ks ih =>
    intro vs ps hl h
    cases vs with
    | nil => simp at hl
    | cons v vs =>
      rw [List.zip_cons_cons] at h
      cases h with
      | cons h1 h2 =>
        obtain ⟨e1, e2⟩ := ih (by simpa using hl) h2
        exact ⟨by rw [List.map_cons, e1, ← h1.1], .cons h1.2 e2⟩
theorem not_sm (I : Inv X pins σ H s) (N : NoSm X x) {a : Addr} {o : HO} (h : H a = some o) : a ≠ sysModules := by
  intro e
  subst e
  obtain ⟨o', es, ep, ho, _⟩ := N.b
  rw [(I.bs _ _ ho).2] at h
  cases h
theorem node_reads (I : Inv X pins σ H s) (N : NoSm X x) {g : List T → Option (List PyData)} (hg : ∀ {ts : List T} {vs : List V} {us : List Value} {ds : List PyData}, RepL x H M ts vs → Vals vs us → g ts = some ds → okDs ds = true ∧ ds.length = ts.length ∧ ∃ as, ReadsAll s.heap us ds as ∧ sysModules ∉ as)
    {k : NK} {ts : List T} {vs : List V} {a : Addr} {d : PyData} (hl : RepL x H M ts vs) (h1 : k = .lst → SqL X.K H a vs ∧ a ≠ sysModules) (h2 : k = .tup → SqT X.K H a vs) (h3 : ∀ ks, k = .dic ks → ks.length = vs.length ∧ H a = some (.dK (ks.zip vs))) (h : nodeX g k ts = some d) :
    okD d = true ∧ ∃ as, Reads s.heap (.ref a) d as ∧ sysModules ∉ as := by
  unfold nodeX at h
  split at h
  · obtain ⟨q, na⟩ := h1 rfl
    obtain ⟨its, rv, ⟨o, n, ho, hc, _, hd⟩, _⟩ := I.list q
    cases e : g ts with
    | none => rw [e] at h; cases h
    | some ds =>
      rw [e] at h; cases h
      obtain ⟨k1, _, as, r, ns⟩ := hg hl rv e
      refine ⟨k1, a :: as, .list ho hc hd (by simpa using r), ?_⟩
      intro hm
      rcases List.mem_cons.mp hm with hm | hm
      · exact na hm.symm
      · exact ns hm
  · obtain ⟨its, rv, ⟨o, ho, hc, n, hd⟩, _⟩ := I.tuple (h2 rfl)
    cases e : g ts with
    | none => rw [e] at h; cases h
    | some ds =>
      rw [e] at h; cases h
      obtain ⟨k1, _, as, r, ns⟩ := hg hl rv e
      exact ⟨k1, as, .tuple ho hc hd (by simpa using r), ns⟩
  · rename_i ks
    obtain ⟨hl', hH⟩ := h3 ks rfl
    split at h
    · rename_i hk
      cases e : g ts with
      | none => rw [e] at h; cases h
      | some ds =>
        rw [e] at h; cases h
        obtain ⟨_, na, ps, kv, o, es, ep, ho, hx, hd, _, hp, _⟩ : ObjOk X.prog X.w H s.heap a (.dK (ks.zip vs)) := I.hok a _ hH
        obtain ⟨e1, e2⟩ := kv_split hl' kv
        obtain ⟨k1, len, as, r, ns⟩ := hg hl e2 e
        obtain ⟨kd, r1, e3, e4⟩ := pairs_key (s := s) (ks := ks) hp (by rw [e1]; exact hk)
        have ln : (ks.map keyD).length = ds.length := by rw [List.length_map, len, hl.length, hl']
        refine ⟨okDk_zip hk k1, a :: [] ++ as, .dict ho hx.1 hd ?_ ?_, ?_⟩
        · rw [map_fst_zip (fun p => p) ln, List.map_id']
          rw [e3, e1] at r1
          exact r1
        · rw [map_snd_zip ln, e4]
          exact r
        · intro hm
          rcases List.mem_cons.mp hm with hm | hm
          · subst hm
            simp at na
          · exact ns hm
    · cases h
  · cases h
theorem reads_of (I : Inv X pins σ H s) (N : NoSm X x) (rm : RelM x H M) : ∀ (n : Nat) {t : T} {v : V} {u : Value} {d : PyData}, Rep x H M t v → RelV v u → toX n M t = some d → okD d = true ∧ ∃ as, Reads s.heap u d as ∧ sysModules ∉ as
  | n, .non, v, u, d, r, q, h => by
    unfold toX at h; cases h
    rw [rep_non r] at q
    obtain rfl : u = .none := q
    exact ⟨rfl, [], .none, by simp⟩
  | n, .bl b, v, u, d, r, q, h => by
    unfold toX at h; cases h
    rw [rep_bl r] at q
    obtain rfl : u = .bool b := q
    exact ⟨rfl, [], .bool b, by simp⟩
  | n, .int i, v, u, d, r, q, h => by
    unfold toX at h; cases h
    rw [rep_int r] at q
    obtain ⟨t, rfl⟩ : ∃ t, u = .int i t := q
    exact ⟨rfl, [], .int i t, by simp⟩
  | n, .str y, v, u, d, r, q, h => by
    unfold toX at h; cases h
    have ok := rep_ok r
    rw [rep_str r] at q
    obtain ⟨t, rfl⟩ : ∃ t, u = .str y t := q
    exact ⟨ok, [], .str y t, by simp⟩
  | _, .ty _, _, _, _, _, _, h => by unfold toX at h; cases h
  | 0, .obj _, _, _, _, _, _, h => by unfold toX at h; cases h
  | 0, .node _ _, _, _, _, _, _, h => by unfold toX at h; cases h
  | n + 1, .obj a, v, u, d, r, q, h => by
    unfold toX at h
    split at h
    · rename_i k ts e
      rw [rep_obj r] at q
      obtain rfl : u = .ref a := q
      obtain ⟨vs, hm, hl⟩ := rm.1 a _ _ e
      refine node_reads I N (fun a b c => reads_all (fun a b c => reads_of I N rm n a b c) a b c) hl ?_ ?_ ?_ h
      · rintro rfl
        exact ⟨.inl (.inl hm), not_sm I N hm⟩
      · rintro rfl
        exact hm.elim
      · rintro ks rfl
        exact hm
    · cases h
  | n + 1, .node k ts, v, u, d, r, q, h => by
    unfold toX at h
    unfold Rep at r
    obtain ⟨a, vs, rfl, hh, hl⟩ := r
    obtain rfl : u = .ref a := q
    refine node_reads I N (fun a b c => reads_all (fun a b c => reads_of I N rm n a b c) a b c) hl ?_ ?_ ?_ h
    · rintro rfl
      rcases hh with ⟨_, _, hh⟩ | hh
      · refine ⟨.inl hh, ?_⟩
        rcases hh with hh | ⟨o, hh⟩
        · exact not_sm I N hh
        · exact not_sm I N hh
      · refine ⟨N.k ▸ .inr hh, ?_⟩
        rintro rfl
        obtain ⟨o, its, n, e1, _, _, e2, _⟩ := hh
        obtain ⟨o', es, ep, ho, hd⟩ := N.b
        have e3 := I.ok.mod.kin _ o (N.k ▸ e1)
        rw [ho] at e3
        cases e3
        rw [hd] at e2
        cases e2
    · rintro rfl
      rcases hh with ⟨_, _, hh⟩ | hh
      · exact .inl (.inl hh)
      · exact N.k ▸ .inr hh
    · rintro ks rfl
      rcases hh with ⟨_, _, hh⟩ | hh
      · exact hh
      · exact hh.elim
end
end TL

set_option Elab.async false
set_option linter.all false
set_option maxRecDepth 100000
/-! TL11: the built-ins' calls over trees. -/
namespace TL
open PySem PySem.Spec PyProof.Rows L2
theorem dp_of {n : Nat} {M : Mp} (f : T → Option PyData) (hf : ∀ t d, f t = some d → d.depth ≤ n) : ∀ {ts : List T} {ds : List PyData}, allX f ts = some ds → PyData.depthAll ds ≤ n
  | [], ds, h => by unfold allX at h; cases h; unfold PyData.depthAll; omega
  | t :: ts, ds, h => by
    unfold allX at h
    split at h
    · rename_i d ds' e1 e2
      cases h
      have h1 := hf t d e1
      have h2 := dp_of (M := M) f hf e2
      unfold PyData.depthAll
      omega
    · cases h
theorem dp_zip {n : Nat} : ∀ {ks : List Key} {ds : List PyData}, PyData.depthAll ds ≤ n → PyData.depthKv ((ks.map keyD).zip ds) ≤ n
  | [], ds, h => by show PyData.depthKv [] ≤ n; unfold PyData.depthKv; omega
  | k :: ks, [], h => by show PyData.depthKv [] ≤ n; unfold PyData.depthKv; omega
  | k :: ks, d :: ds, h => by
    unfold PyData.depthAll at h
    have := dp_zip (n := n) (ks := ks) (ds := ds) (by omega)
    rw [List.map_cons, List.zip_cons_cons]
    unfold PyData.depthKv
    have hk : (keyD k).depth = 0 := by cases k <;> (show PyData.depth _ = 0; unfold keyD PyData.depth; rfl)
    omega
theorem dp_node {n : Nat} {g : List T → Option (List PyData)} (hg : ∀ ts ds, g ts = some ds → PyData.depthAll ds ≤ n) {k : NK} {ts : List T} {d : PyData} (h : nodeX g k ts = some d) : d.depth ≤ n + 1 := by
  unfold nodeX at h
  split at h
  · cases e : g ts with
    | none => rw [e] at h; cases h
    | some ds => rw [e] at h; cases h; have := hg _ _ e; show PyData.depth (.list ds) ≤ _; unfold PyData.depth; omega
  · cases e : g ts with
    | none => rw [e] at h; cases h
    | some ds => rw [e] at h; cases h; have := hg _ _ e; show PyData.depth (.tuple ds) ≤ _; unfold PyData.depth; omega
  · split at h
    · cases e : g ts with
      | none => rw [e] at h; cases h
      | some ds => rw [e] at h; cases h; have := dp_zip (ks := ‹_›) (hg _ _ e); show PyData.depth (.dict _) ≤ _; unfold PyData.depth; omega
    · cases h
  · cases h
theorem dp_toX {M : Mp} : ∀ (n : Nat) {t : T} {d : PyData}, toX n M t = some d → d.depth ≤ n
  | n, .non, d, h => by unfold toX at h; cases h; unfold PyData.depth; omega
  | n, .bl _, d, h => by unfold toX at h; cases h; unfold PyData.depth; omega
  | n, .int _, d, h => by unfold toX at h; cases h; unfold PyData.depth; omega
  | n, .str _, d, h => by unfold toX at h; cases h; unfold PyData.depth; omega
  | _, .ty _, _, h => by unfold toX at h; cases h
  | 0, .obj _, _, h => by unfold toX at h; cases h
  | 0, .node _ _, _, h => by unfold toX at h; cases h
  | n + 1, .obj a, d, h => by
    unfold toX at h
    split at h
    · exact dp_node (fun ts ds e => dp_of (M := M) _ (fun t d e => dp_toX n e) e) h
    · cases h
  | n + 1, .node k ts, d, h => by
    unfold toX at h
    exact dp_node (fun ts ds e => dp_of (M := M) _ (fun t d e => dp_toX n e) e) h
theorem ok_allX {x : Tx} {H : Hp} {M : Mp} {f : T → Option PyData} (hf : ∀ {t v d}, Rep x H M t v → f t = some d → okD d = true) : ∀ {ts : List T} {vs : List V} {ds : List PyData}, RepL x H M ts vs → allX f ts = some ds → okDs ds = true
  | [], vs, ds, r, h => by unfold allX at h; cases h; rfl
  | t :: ts, vs, ds, r, h => by
    unfold RepL at r
    obtain ⟨v, ws, rfl, r1, r2⟩ := r
    unfold allX at h
    split at h
    · rename_i d ds' e1 e2
      cases h
      unfold okDs
      rw [hf r1 e1, ok_allX hf r2 e2]; rfl
    · cases h
theorem ok_nodeX {g : List T → Option (List PyData)} {k : NK} {ts : List T} {d : PyData} (hg : ∀ ds, g ts = some ds → okDs ds = true) (h : nodeX g k ts = some d) : okD d = true := by
  unfold nodeX at h
  split at h
  · cases e : g ts with
    | none => rw [e] at h; cases h
    | some ds => rw [e] at h; cases h; exact hg _ e
  · cases e : g ts with
    | none => rw [e] at h; cases h
    | some ds => rw [e] at h; cases h; exact hg _ e
  · split at h
    · rename_i hk
      cases e : g ts with
      | none => rw [e] at h; cases h
      | some ds => rw [e] at h; cases h; exact okDk_zip hk (hg _ e)
    · cases h
  · cases h
theorem ok_toX {x : Tx} {H : Hp} {M : Mp} (rm : RelM x H M) : ∀ (n : Nat) {t : T} {v : V} {d : PyData}, Rep x H M t v → toX n M t = some d → okD d = true
  | n, .non, v, d, r, h => by unfold toX at h; cases h; rfl
  | n, .bl b, v, d, r, h => by unfold toX at h; cases h; rfl
  | n, .int i, v, d, r, h => by unfold toX at h; cases h; rfl
  | n, .str y, v, d, r, h => by unfold toX at h; cases h; exact rep_ok r
  | _, .ty _, _, _, _, h => by unfold toX at h; cases h
  | 0, .obj _, _, _, _, h => by unfold toX at h; cases h
  | 0, .node _ _, _, _, _, h => by unfold toX at h; cases h
  | n + 1, .obj a, v, d, r, h => by
    unfold toX at h
    split at h
    · rename_i k ts e
      obtain ⟨vs, hm, hl⟩ := rm.1 a _ _ e
      exact ok_nodeX (fun ds e => ok_allX (fun a b => ok_toX rm n a b) hl e) h
    · cases h
  | n + 1, .node k ts, v, d, r, h => by
    unfold toX at h
    unfold Rep at r
    obtain ⟨a, vs, rfl, hh, hl⟩ := r
    exact ok_nodeX (fun ds e => ok_allX (fun a b => ok_toX rm n a b) hl e) h
/-! ### the calls -/
/-- repr(t) -/
def repr1 : R1 := fun ts M Q => match ts with
  | [t] => (match toX 40 M t with
    | some d => d.showable = true ∧ d.shown.length ≤ sizeLine ∧ Q (.str d.shown) M
    | none => False)
  | _ => False
section
variable {X : Cx} {x : Tx}
theorem one_rep {H : Hp} {M : Mp} {t : T} {vs : List V} (r : RepL x H M [t] vs) : ∃ v, vs = [v] ∧ Rep x H M t v := by
  unfold RepL at r
  obtain ⟨v, ws, rfl, r1, r2⟩ := r
  unfold RepL at r2
  subst r2
  exact ⟨v, rfl, r1⟩
theorem two_rep {H : Hp} {M : Mp} {t u : T} {vs : List V} (r : RepL x H M [t, u] vs) : ∃ v w, vs = [v, w] ∧ Rep x H M t v ∧ Rep x H M u w := by
  unfold RepL at r
  obtain ⟨v, ws, rfl, r1, r2⟩ := r
  obtain ⟨w, rfl, r3⟩ := one_rep r2
  exact ⟨v, w, rfl, r1, r3⟩
theorem cr_repr (N : NoSm X x) (hA : Ard X.base X.A) (hu : X.A.units + 64 < cLine) : Cr1 X x (.builtin "repr") repr1 := by
  refine ⟨fun vs H Q => ∃ (t : T) (v : V) (M : Mp) (d : PyData), vs = [v] ∧ Rep x H M t v ∧ RelM x H M ∧ toX 40 M t = some d ∧ d.showable = true ∧ d.shown.length ≤ sizeLine ∧ Q (.str d.shown) H, ?_, ?_⟩
  · intro pins s σ H vs us Q I r h
    obtain ⟨t, v, M, d, rfl, rp, rm, e, hs, hz, q⟩ := h
    obtain ⟨u, rfl, rv⟩ := vals1 r
    obtain ⟨_, as, rd, ns⟩ := reads_of I N rm 40 rp rv e
    have hd := dp_toX 40 e
    cases rd with
    | none => exact PySem.P.repr_of_none ⟨.str _, H, I.tok _, ⟨_, rfl⟩, by simpa only [PyData.shown] using q⟩
    | bool b => exact PySem.P.repr_of_bool ⟨.str _, H, I.tok _, ⟨_, rfl⟩, by cases b <;> simpa only [PyData.shown] using q⟩
    | int i t => exact PySem.P.repr_of_int (by simpa [PyData.showable] using hs) ⟨.str _, H, I.tok _, ⟨_, rfl⟩, by simpa only [PyData.shown] using q⟩
    | str y t => exact PySem.P.repr_of_str ⟨.str _, H, I.tok _, ⟨_, rfl⟩, by simpa only [PyData.shown] using q⟩ (by simpa only [PyData.shown] using hz)
    | list h1 h2 h3 h4 => exact repr_of_reads' (.list h1 h2 h3 h4) hs (fun _ => ns) hA.g (by omega) (fun _ _ z => z) (fun h' u tk k => ⟨.str _, H, I.kept k, ⟨u, rfl⟩, q⟩) hz
    | tuple h1 h2 h3 h4 => exact repr_of_reads' (.tuple h1 h2 h3 h4) hs (fun _ => ns) hA.g (by omega) (fun _ _ z => z) (fun h' u tk k => ⟨.str _, H, I.kept k, ⟨u, rfl⟩, q⟩) hz
    | dict h1 h2 h3 h4 h5 => exact repr_of_reads' (.dict h1 h2 h3 h4 h5) hs (fun _ => ns) hA.g (by omega) (fun _ _ z => z) (fun h' u tk k => ⟨.str _, H, I.kept k, ⟨u, rfl⟩, q⟩) hz
  · intro ts vs M H Q' Q rm r h k
    unfold repr1 at h
    split at h
    · rename_i t
      obtain ⟨v, rfl, r1⟩ := one_rep r
      split at h
      · rename_i d e
        obtain ⟨h1, h2, h3⟩ := h
        refine ⟨t, v, M, d, rfl, r1, rm, e, h1, h2, k _ M _ H .refl rm (rep_str_ ?_) h3⟩
        exact ok_shown d (ok_toX rm 40 r1 e)
      · exact h.elim
    · exact h.elim
end
end TL

set_option Elab.async false
set_option linter.all false
set_option maxRecDepth 100000
/-! TL12: the built-ins' calls over trees, one by one. -/
namespace TL
open PySem PySem.Spec PyProof.Rows L2
section
variable {X : Cx} {x : Tx}
def lenR : R1 := fun ts M Q => match ts with
  | [.str y] => y.length ≤ sizeLine ∧ Q (.int y.length) M
  | [.node (.dic _) us] => Q (.int us.length) M
  | [.node k us] => (k = .lst ∨ k = .tup) ∧ Q (.int us.length) M
  | [.obj a] => (match M a with
    | some (.lst, us) => Q (.int us.length) M
    | some (.dic _, us) => Q (.int us.length) M
    | _ => False)
  | _ => False
theorem len_zip {α β : Type} : ∀ {a : List α} {b : List β}, a.length = b.length → (a.zip b).length = b.length := fun {a b} h => by
  rw [List.length_zip, h, Nat.min_self]
theorem cr_len (hK : X.K = x.K) : Cr1 X x (.builtin "len") lenR := by
  refine ⟨_, call_len.or call_lenD, fun ts vs M H Q' Q rm r h k => ?_⟩
  unfold lenR at h
  split at h
  · rename_i y
    obtain ⟨v, rfl, r1⟩ := one_rep r
    rw [rep_str r1]
    exact .inl ⟨_, y.length, rfl, ⟨h.1, rfl⟩, k _ M _ H .refl rm rep_int_ h.2⟩
  · rename_i ks us
    obtain ⟨v, rfl, r1⟩ := one_rep r
    unfold Rep at r1
    obtain ⟨a, vs, rfl, hh, hl⟩ := r1
    rcases hh with ⟨_, _, hh⟩ | hh
    · obtain ⟨q, hh⟩ : ks.length = vs.length ∧ H a = some (.dK (ks.zip vs)) := hh
      refine .inr ⟨a, _, rfl, hh, k _ M _ H .refl rm (by rw [len_zip q, ← hl.length]; exact rep_int_) h⟩
    · exact hh.elim
  · rename_i kk us _
    obtain ⟨v, rfl, r1⟩ := one_rep r
    obtain ⟨hk, h⟩ := h
    rcases hk with rfl | rfl
    · obtain ⟨a, vs, rfl, h1, h2⟩ := rdL_ok (ts := us) rm r1 rfl
      exact .inl ⟨_, us.length, rfl, .inl ⟨vs, hK ▸ h1, h2.length⟩, k _ M _ H .refl rm rep_int_ h⟩
    · obtain ⟨a, vs, rfl, h1, h2⟩ := rdU_ok (ts := us) r1 rfl
      exact .inl ⟨_, us.length, rfl, .inr ⟨vs, hK ▸ h1, h2.length⟩, k _ M _ H .refl rm rep_int_ h⟩
  · rename_i a
    obtain ⟨v, rfl, r1⟩ := one_rep r
    rw [rep_obj r1]
    split at h
    · rename_i us e
      obtain ⟨vs, h1, h2⟩ := rm.1 a _ _ e
      exact .inl ⟨_, us.length, rfl, .inl ⟨vs, .inl (.inl h1), h2.length⟩, k _ M _ H .refl rm rep_int_ h⟩
    · rename_i ks us e
      obtain ⟨vs, ⟨q, h1⟩, h2⟩ := rm.1 a _ _ e
      refine .inr ⟨a, _, rfl, h1, k _ M _ H .refl rm (by rw [len_zip q, ← h2.length]; exact rep_int_) h⟩
    · exact h.elim
  · exact h.elim
def max1 : R1 := fun ts M Q => match ts with
  | [.int i, .int j] => Q (.int (if j > i then j else i)) M
  | _ => False
def min1 : R1 := fun ts M Q => match ts with
  | [.int i, .int j] => Q (.int (if j < i then j else i)) M
  | _ => False
theorem cr_max2 (hc : X.calm = true) : Cr1 X x (.builtin "max") max1 := by
  refine ⟨_, call_max2 hc, fun ts vs M H Q' Q rm r h k => ?_⟩
  unfold max1 at h
  split at h
  · obtain ⟨v, w, rfl, r1, r2⟩ := two_rep r
    exact ⟨_, _, by rw [rep_int r1, rep_int r2], k _ M _ H .refl rm rep_int_ h⟩
  · exact h.elim
theorem cr_min2 (hc : X.calm = true) : Cr1 X x (.builtin "min") min1 := by
  refine ⟨_, call_min2 hc, fun ts vs M H Q' Q rm r h k => ?_⟩
  unfold min1 at h
  split at h
  · obtain ⟨v, w, rfl, r1, r2⟩ := two_rep r
    exact ⟨_, _, by rw [rep_int r1, rep_int r2], k _ M _ H .refl rm rep_int_ h⟩
  · exact h.elim
def int1 : R1 := fun ts M Q => match ts with
  | [.int i] => Q (.int i) M
  | [.bl b] => Q (.int (if b then 1 else 0)) M
  | [.str y] => (match PySem.intText? y with
    | some n => y.length ≤ 640 ∧ Q (.int n) M
    | none => False)
  | _ => False
theorem cr_int : Cr1 X x (.type "int") int1 := by
  refine ⟨_, call_int1.or call_int_str, fun ts vs M H Q' Q rm r h k => ?_⟩
  unfold int1 at h
  split at h
  · obtain ⟨v, rfl, r1⟩ := one_rep r
    exact .inl (.inl ⟨_, by rw [rep_int r1], k _ M _ H .refl rm rep_int_ h⟩)
  · obtain ⟨v, rfl, r1⟩ := one_rep r
    exact .inl (.inr ⟨_, by rw [rep_bl r1], k _ M _ H .refl rm rep_int_ h⟩)
  · obtain ⟨v, rfl, r1⟩ := one_rep r
    split at h
    · rename_i n e
      exact .inr ⟨_, n, by rw [rep_str r1], e, h.1, k _ M _ H .refl rm rep_int_ h.2⟩
    · exact h.elim
  · exact h.elim
def strI1 : R1 := fun ts M Q => match ts with
  | [.int i] => i.natAbs.log2 < 1920 ∧ Q (.str (toString i)) M
  | _ => False
theorem cr_strI : Cr1 X x (.type "str") strI1 := by
  refine ⟨_, call_str_int, fun ts vs M H Q' Q rm r h k => ?_⟩
  unfold strI1 at h
  split at h
  · obtain ⟨v, rfl, r1⟩ := one_rep r
    exact ⟨_, by rw [rep_int r1], h.1, k _ M _ H .refl rm (rep_str_ (ok_ofS _)) h.2⟩
  · exact h.elim
def abs1 : R1 := fun ts M Q => match ts with
  | [.int i] => Q (.int (if i < 0 then -i else i)) M
  | _ => False
theorem cr_abs : Cr1 X x (.builtin "abs") abs1 := by
  refine ⟨_, call_abs, fun ts vs M H Q' Q rm r h k => ?_⟩
  unfold abs1 at h
  split at h
  · obtain ⟨v, rfl, r1⟩ := one_rep r
    exact ⟨_, by rw [rep_int r1], k _ M _ H .refl rm rep_int_ h⟩
  · exact h.elim
def ord1 : R1 := fun ts M Q => match ts with
  | [.str y] => y.length = 1 ∧ Q (.int (y.cps.getD 0 0 : Nat)) M
  | _ => False
theorem cr_ord : Cr1 X x (.builtin "ord") ord1 := by
  refine ⟨_, call_ord, fun ts vs M H Q' Q rm r h k => ?_⟩
  unfold ord1 at h
  split at h
  · obtain ⟨v, rfl, r1⟩ := one_rep r
    exact ⟨_, by rw [rep_str r1], h.1, k _ M _ H .refl rm rep_int_ h.2⟩
  · exact h.elim
def divmod1 : R1 := fun ts M Q => match ts with
  | [.int i, .int j] => CDiv i j ∧ Q (.node .tup [.int (i / j), .int (i % j)]) M
  | _ => False
theorem cr_divmod : Cr1 X x (.builtin "divmod") divmod1 := by
  refine ⟨_, call_divmod, fun ts vs M H Q' Q rm r h k => ?_⟩
  unfold divmod1 at h
  split at h
  · obtain ⟨v, w, rfl, r1, r2⟩ := two_rep r
    exact ⟨_, _, by rw [rep_int r1, rep_int r2], h.1, newT_ok rm (.cons rep_int_ (.cons rep_int_ .nil)) h.2 k⟩
  · exact h.elim
/-! ### isinstance, a built-in type -/
def tyN (M : Mp) : T → Option String
  | .non => some "NoneType"
  | .bl _ => some "bool"
  | .int _ => some "int"
  | .str _ => some "str"
  | .node .lst _ => some "list"
  | .node .tup _ => some "tuple"
  | .node (.dic _) _ => some "dict"
  | .obj a => (match M a with
    | some (.lst, _) => some "list"
    | some (.dic _, _) => some "dict"
    | _ => none)
  | _ => none
theorem tyN_ok {H : Hp} {M : Mp} (hK : X.K = x.K) (rm : RelM x H M) {t : T} {v : V} {n : String} (r : Rep x H M t v) (h : tyN M t = some n) : TyX X.K H v (.type n) := by
  unfold tyN at h
  split at h
  · cases h; rw [rep_non r]; exact .base .non
  · cases h; rw [rep_bl r]; exact .base (.bl _)
  · cases h; rw [rep_int r]; exact .base (.int _)
  · cases h; rw [rep_str r]; exact .base (.str _)
  · cases h
    unfold Rep at r
    obtain ⟨a, vs, rfl, hh, hl⟩ := r
    rcases hh with ⟨_, _, h | ⟨o, h⟩⟩ | ⟨o, _, _, h1, h2, _⟩
    · exact .base (.lst h)
    · exact .base (.frz h)
    · exact .kList (hK ▸ h1) h2
  · cases h
    unfold Rep at r
    obtain ⟨a, vs, rfl, hh, hl⟩ := r
    rcases hh with ⟨_, _, h⟩ | ⟨o, _, _, h1, h2, _⟩
    · exact .base (.tup h)
    · exact .kTuple (hK ▸ h1) h2
  · cases h
    unfold Rep at r
    obtain ⟨a, vs, rfl, hh, hl⟩ := r
    rcases hh with ⟨_, _, h⟩ | h
    · exact .base (.dK h.2)
    · exact h.elim
  · rename_i a
    rw [rep_obj r]
    split at h
    · rename_i e
      cases h
      obtain ⟨vs, h1, h2⟩ := rm.1 a _ _ e
      exact .base (.lst h1)
    · rename_i e
      cases h
      obtain ⟨vs, h1, h2⟩ := rm.1 a _ _ e
      exact .base (.dK h1.2)
    · cases h
  · cases h
/-- the answers among the types that are built in -/
def isTab : List (String × String × Bool) :=
  ["NoneType", "bool", "int", "str", "list", "tuple", "dict"].flatMap fun a => ["bool", "int", "str", "list", "tuple", "dict"].map fun b => (a, b, a == b || (a == "bool" && b == "int"))
theorem isTab_ok : (isTab.all fun p => kitB p.1 p.2.1 == some p.2.2) = true := by decide +kernel
def isB (a b : String) : Bool := decide (a = b) || (decide (a = "bool") && decide (b = "int"))
theorem isB_ok {a b : String} (h : (a, b, isB a b) ∈ isTab) : kitB a b = some (isB a b) := by
  have := List.all_eq_true.mp isTab_ok _ h
  simpa using this
def inst1 : R1 := fun ts M Q => match ts with
  | [t, .ty n] => (match tyN M t with
    | some a => (a, n, isB a n) ∈ isTab ∧ Q (.bl (isB a n)) M
    | none => False)
  | _ => False
theorem cr_inst (hK : X.K = x.K) : Cr1 X x (.builtin "isinstance") inst1 := by
  refine ⟨_, call_isi, fun ts vs M H Q' Q rm r h k => ?_⟩
  unfold inst1 at h
  split at h
  · rename_i t n
    obtain ⟨v, w, rfl, r1, r2⟩ := two_rep r
    split at h
    · rename_i a e
      rw [rep_ty r2]
      exact ⟨v, .ty n, _, _, isB a n, rfl, .ty n, tyN_ok hK rm r1 e, kit_ty (isB_ok h.1), k _ M _ H .refl rm rep_bl_ h.2⟩
    · exact h.elim
  · exact h.elim
/-! ### methods -/
def app1 : Rm := fun u ts M Q => match u, ts with
  | .obj a, [t] => (match M a with
    | some (.lst, us) => us.length < sizeLine ∧ Q .non (updM M a (.lst, us ++ [t]))
    | _ => False)
  | _, _ => False
theorem mt1_append : Mt1 X x "list.append" app1 := by
  refine ⟨_, mt_append, fun u ts v vs M H Q' Q rm ru r h k => ?_⟩
  unfold app1 at h
  split at h
  · rename_i a t
    split at h
    · rename_i us e
      obtain ⟨w, rfl, r1⟩ := one_rep r
      obtain ⟨ys, h1, h2⟩ := rm.1 a _ _ e
      rw [rep_obj ru]
      have ex : Ext M H (updM M a (.lst, us ++ [t])) (upd H a (.lst (ys ++ [w]))) := Ext.write e
      exact ⟨a, ys, w, rfl, rfl, h1, by rw [← h2.length]; exact h.1, k _ _ _ _ ex (rm.write e upd_same (h2.snoc r1)) rep_non_ h.2⟩
    · exact h.elim
  · exact h.elim
def join1 : Rm := fun u ts M Q => match u, ts with
  | .str a, [t] => (match rdS M t with
    | some us => (match allS us with
      | some ys => (ys.map (·.length)).sum + ys.length * a.length ≤ 16777216 ∧ Q (.str (Txt.join a ys)) M
      | none => False)
    | none => False)
  | _, _ => False
theorem ok_allS {H : Hp} {M : Mp} : ∀ {ts : List T} {vs : List V} {ys : List Str}, RepL x H M ts vs → allS ts = some ys → ∀ y ∈ ys, PyData.strOk y = true
  | [], vs, ys, r, h, y, hy => by unfold allS at h; cases h; cases hy
  | t :: ts, vs, ys, r, h, y, hy => by
    unfold RepL at r
    obtain ⟨v, ws, rfl, r1, r2⟩ := r
    unfold allS at h
    split at h
    · rename_i e; cases e
    · rename_i i r' e
      cases e
      cases q : allS ts with
      | none => rw [q] at h; cases h
      | some ms =>
        rw [q] at h; cases h
        rcases List.mem_cons.mp hy with rfl | hy
        · exact rep_ok r1
        · exact ok_allS r2 q y hy
    · cases h
theorem ok_txtJoin {a : Str} (ha : PyData.strOk a = true) {ys : List Str} (h : ∀ y ∈ ys, PyData.strOk y = true) : PyData.strOk (Txt.join a ys) = true := by
  have e : Txt.join a ys = Str.join a ys := StrLaws.glued_eq_join a ys
  rw [e]
  exact ok_join ha ys h
theorem mt1_join (hK : X.K = x.K) : Mt1 X x "str.join" join1 := by
  refine ⟨_, mt_join, fun u ts v vs M H Q' Q rm ru r h k => ?_⟩
  unfold join1 at h
  split at h
  · rename_i a t
    obtain ⟨w, rfl, r1⟩ := one_rep r
    split at h
    · rename_i us e
      split at h
      · rename_i ys e2
        obtain ⟨p, ws, rfl, hp, hl⟩ := rdS_ok rm r1 e
        have := allS_ok hl e2
        subst this
        rw [rep_str ru]
        exact ⟨a, p, ys, rfl, rfl, hK ▸ hp, h.1, k _ _ _ _ .refl rm (rep_str_ (ok_txtJoin (rep_ok ru) (ok_allS hl e2))) h.2⟩
      · exact h.elim
    · exact h.elim
  · exact h.elim
/-! ### operators -/
theorem op1_inC : Op1 X x (compareOp .In) (inC false) := by
  refine ⟨_, op_in_sign, fun u v p q M H Q' Q rm r1 r2 h k => ?_⟩
  unfold inC at h
  split at h
  · obtain ⟨c, rfl, h⟩ := h
    exact ⟨c, _, rep_str r1, rep_str r2, k _ _ _ _ .refl rm rep_bl_ (by simpa using h)⟩
  · exact h.elim
theorem op1_notInC : Op1 X x (compareOp .NotIn) (inC true) := by
  refine ⟨_, op_notIn_sign, fun u v p q M H Q' Q rm r1 r2 h k => ?_⟩
  unfold inC at h
  split at h
  · obtain ⟨c, rfl, h⟩ := h
    exact ⟨c, _, rep_str r1, rep_str r2, k _ _ _ _ .refl rm rep_bl_ (by simpa using h)⟩
  · exact h.elim
/-- a text, n times -/
def mulS : R21
  | .str y, .int n, M, Q => MulOk y n ∧ Q (.str (Txt.mul y n)) M
  | .int i, .int j, M, Q => CMul i j ∧ Q (.int (i * j)) M
  | _, _, _, _ => False
def rMulS : R2 := fun x y H Q => ∃ a n, x = .str a ∧ y = .int n ∧ MulOk a n ∧ Q (.str (Txt.mul a n)) H
theorem op_mulS : OpR X (binaryOp .Mult) rMulS := by
  intro pins s σ H x y v u Q I rx ry h
  obtain ⟨a, n, rfl, rfl, ho, q⟩ := h
  obtain ⟨t, rfl⟩ := rx
  obtain ⟨t', rfl⟩ := ry
  exact SB.mul ho fun t' k => ⟨.str _, H, I.tok k, ⟨t', rfl⟩, q⟩
theorem ok_flat {y : Str} (h : PyData.strOk y = true) : ∀ k, PyData.strOk (Txt.mul y k) = true := by
  intro n
  rw [ok_iff] at *
  intro c hc
  unfold Txt.mul at hc
  split at hc
  · have e : (Str.empty.cps).toList = [] := rfl
    rw [e] at hc
    cases hc
  · split at hc
    · exact h c hc
    · have f : ∀ (k : Nat) (acc : Array Nat), (∀ c ∈ acc, c < 1114112) → ∀ c ∈ List.foldl (fun x1 x2 => x1 ++ x2) acc (List.replicate k y.cps), c < 1114112 := by
        intro k
        induction k with
        | zero => intro acc ha; simpa using ha
        | succ k ih =>
          intro acc ha
          rw [List.replicate_succ, List.foldl_cons]
          refine ih _ fun c hc => ?_
          rcases Array.mem_append.mp hc with q | q
          · exact ha c q
          · exact h c (by simpa using q)
      exact f n.toNat #[] (by simp) c (Array.mem_def.mpr hc)
theorem op1_mulS : Op1 X x (binaryOp .Mult) mulS := by
  refine ⟨_, op_mul.or op_mulS, fun u v p q M H Q' Q rm r1 r2 h k => ?_⟩
  unfold mulS at h
  split at h
  · exact .inr ⟨_, _, rep_str r1, rep_int r2, h.1, k _ _ _ _ .refl rm (rep_str_ (ok_flat (rep_ok r1) _)) h.2⟩
  · exact .inl ⟨_, _, rep_int r1, rep_int r2, h.1, k _ _ _ _ .refl rm rep_int_ h.2⟩
  · exact h.elim
end
end TL

set_option Elab.async false
set_option linter.all false
set_option maxRecDepth 100000
/-! TL13: operators of several kinds; dict displays; is; the laws' end. -/
namespace TL
open PySem PySem.Spec PyProof.Rows L2
section
variable {X : Cx} {x : Tx} {W : Wz}
/-! ### + and * of numbers and texts -/
def addA : R21
  | .int i, .int j, M, Q => Q (.int (i + j)) M
  | .str i, .str j, M, Q => i.length + j.length ≤ sizeLine ∧ Q (.str (i ++ j)) M
  | _, _, _, _ => False
theorem op1_addA : Op1 X x (binaryOp .Add) addA := (op1_add.or op1_addS).imp fun u v M Q h => by
  unfold addA at h
  split at h
  · exact .inl h
  · exact .inr h
  · exact h.elim
def mulA : R21
  | .int i, .int j, M, Q => (CMul i j ∨ CMulW i j) ∧ Q (.int (i * j)) M
  | .str y, .int n, M, Q => MulOk y n ∧ Q (.str (Txt.mul y n)) M
  | _, _, _, _ => False
theorem op1_mulA : Op1 X x (binaryOp .Mult) mulA := ((op1_mul.or op1_mulW).or op1_mulS).imp fun u v M Q h => by
  unfold mulA at h
  split at h
  · rcases h with ⟨h | h, q⟩
    · exact .inl (.inl ⟨h, q⟩)
    · exact .inl (.inr ⟨h, q⟩)
  · exact .inr h
  · exact h.elim
/-! ### is -/
def isA1 (neg : Bool) : R21 := fun u v M Q => match v with
  | .bl b => (match u with
    | .bl a => Q (.bl (decide (a = b) ^^ neg)) M
    | _ => False)
  | .non => isN1 neg u .non M Q
  | _ => False
theorem op1_isA : Op1 X x (compareOp .Is) (isA1 false) := by
  refine Op1.imp (Op1.or op1_isN (s := fun u v M Q => ∃ a b, u = .bl a ∧ v = .bl b ∧ Q (.bl (decide (a = b))) M) ⟨_, op_is_bl, fun u v p q M H Q' Q rm r1 r2 ⟨a, b, e1, e2, h⟩ k => ?_⟩) fun u v M Q h => ?_
  · subst e1 e2
    exact ⟨a, b, rep_bl r1, rep_bl r2, k _ _ _ _ .refl rm rep_bl_ h⟩
  · unfold isA1 at h
    split at h
    · split at h
      · exact .inr ⟨_, _, rfl, rfl, by simpa using h⟩
      · exact h.elim
    · exact .inl h
    · exact h.elim
theorem op1_isnotA : Op1 X x (compareOp .IsNot) (isA1 true) := by
  refine Op1.imp (Op1.or op1_notN (s := fun u v M Q => ∃ a b, u = .bl a ∧ v = .bl b ∧ Q (.bl (!decide (a = b))) M) ⟨_, op_isnot_bl, fun u v p q M H Q' Q rm r1 r2 ⟨a, b, e1, e2, h⟩ k => ?_⟩) fun u v M Q h => ?_
  · subst e1 e2
    exact ⟨a, b, rep_bl r1, rep_bl r2, k _ _ _ _ .refl rm rep_bl_ h⟩
  · unfold isA1 at h
    split at h
    · split at h
      · exact .inr ⟨_, _, rfl, rfl, by simpa using h⟩
      · exact h.elim
    · exact .inl h
    · exact h.elim
/-! ### a dict of one pair that is never changed -/
def keyT : T → Option Key
  | .int i => some (.inl i)
  | .str y => some (.inr y)
  | _ => none
def tDic1 (tk tv : TE1) : TE1 := fun τ M Q E => tk τ M (fun u M1 => tv τ M1 (fun v M2 => match keyT u with
  | some k => Q (.node (.dic [k]) [v]) M2
  | none => False) E) E
theorem keyT_ok {H : Hp} {M : Mp} {t : T} {v : V} {k : Key} (r : Rep x H M t v) (h : keyT t = some k) : v = kV k := by
  unfold keyT at h
  split at h
  · cases h; exact rep_int r
  · cases h; exact rep_str r
  · cases h
end
end TL

set_option Elab.async false
set_option linter.all false
set_option maxRecDepth 100000
/-! TL14: dict displays. -/
namespace TL
open PySem PySem.Spec PyProof.Rows L2
def newD (ks : List Key) (ts : List T) (M : Mp) (Q : TK) : Prop := Q (.node (.dic ks) ts) M ∨ ∀ p, M p = none → Q (.obj p) (updM M p (.dic ks, ts))
def allK : List T → Option (List Key)
  | [] => some []
  | t :: ts => match keyT t, allK ts with
    | some k, some ks => some (k :: ks)
    | _, _ => none
/-- the pairs, from the left: keys and values -/
def tPs1 : List (TE1 × TE1) → TSt → Mp → (List T → List T → Mp → Prop) → TK → Prop
  | [], _, M, Q, _ => Q [] [] M
  | (tk, tv) :: r, τ, M, Q, E => tk τ M (fun u M1 => tv τ M1 (fun v M2 => tPs1 r τ M2 (fun us vs M3 => Q (u :: us) (v :: vs) M3) E) E) E
def tDic (trs : List (TE1 × TE1)) : TE1 := fun τ M Q E => tPs1 trs τ M (fun us vs M1 => match allK us with
  | some ks => ks.Nodup ∧ us.length ≤ 15 ∧ newD ks vs M1 Q
  | none => False) E
def anyE (x : Tx) (W : Wz) (t : TE1) : TE := fun σ H Q => ∃ F, liftE ⟨x.K, x.cd, F⟩ W t σ H Q
inductive PP1 (X : Cx) (x : Tx) (W : Wz) (pos : Pos) : List (Option Expr) → List Expr → List (TE1 × TE1) → Prop
  | nil : PP1 X x W pos [] [] []
  | cons {k v : Expr} {ks : List (Option Expr)} {vs : List Expr} {tk tv : TE1} {trs : List (TE1 × TE1)} (hk : ∀ F, PE1 X ⟨x.K, x.cd, F⟩ W k tk) (hv : ∀ F, PE1 X ⟨x.K, x.cd, F⟩ W v tv) (hr : PP1 X x W pos ks vs trs) : PP1 X x W pos (some k :: ks) (v :: vs) ((tk, tv) :: trs)
section
variable {X : Cx} {x : Tx} {W : Wz} {pos : Pos}
theorem PP1.low {ks : List (Option Expr)} {vs : List Expr} {trs : List (TE1 × TE1)} (h : PP1 X x W pos ks vs trs) : PPs X pos ks vs (trs.map fun p => (anyE x W p.1, anyE x W p.2)) ∧ ks.all (·.isSome) = true ∧ ks.length = vs.length ∧ ks.length = trs.length := by
  induction h with
  | nil => exact ⟨pps_nil, rfl, rfl, rfl⟩
  | cons hk hv hr ih =>
    refine ⟨pps_cons ⟨fun p s σ H Q I ⟨F, q⟩ => (hk F).run p s σ H Q I q⟩ ⟨fun p s σ H Q I ⟨F, q⟩ => (hv F).run p s σ H Q I q⟩ ih.1, by simpa using ih.2.1, by simp [ih.2.2.1], by simp [ih.2.2.2]⟩
theorem RepX.unhid {D : Addr} {H : Hp} {M : Mp} {cls : Value} {d : Option Addr} {t : T} (hM : M D = none) (r : RepX (x.hid D) H M cls d t) : RepX x H M cls d t := by
  unfold RepX at r ⊢
  split at r
  · obtain ⟨e1, dd, vs, e2, e3, e4, e5, e6⟩ := r
    exact ⟨e1, dd, vs, e2, e3, e4, e5, (RepL.unhid (o := .tup []) (z := (.lst, [])) hM e6).1⟩
  · exact r.elim
theorem ps_lift {D : Addr} {o : HO} {σ : L2.St} {τ : TSt} : ∀ {trs : List (TE1 × TE1)} {M : Mp} {H : Hp} {Q' : List T → List T → Mp → Prop} {E' : TK} {Q : List (V × V) → Hp → Prop}, RelS (x.hid D) W H M σ τ → RelM (x.hid D) H M → H D = some o → tPs1 trs τ M Q' E' → EC (x.hid D) W σ M H E' →
    (∀ us vs M1 (uv vv : List V) H1, us.length = vs.length → Ext M H M1 H1 → RelM (x.hid D) H1 M1 → H1 D = some o → RepL (x.hid D) H1 M1 us uv → RepL (x.hid D) H1 M1 vs vv → Q' us vs M1 → Q (uv.zip vv) H1) → tPairs (trs.map fun p => (anyE x W p.1, anyE x W p.2)) σ H Q
  | [], M, H, Q', E', Q, rs, rm, hD, h, ec, k => k [] [] M [] [] H rfl .refl rm hD RepL.nil RepL.nil h
  | (tk, tv) :: r, M, H, Q', E', Q, rs, rm, hD, h, ec, k => by
    show anyE x W tk σ H fun u H1 => anyE x W tv σ H1 fun v H2 => tPairs (r.map _) σ H2 fun ps H3 => Q ((u, v) :: ps) H3
    unfold tPs1 at h
    refine ⟨fun a => x.F a ∨ a = D, bindE rs rm h ec fun u M1 p H1 e1 rs1 rm1 r1 h1 => ?_⟩
    refine ⟨fun a => x.F a ∨ a = D, bindE rs1 rm1 h1 (ec.ext e1) fun v M2 q H2 e2 rs2 rm2 r2 h2 => ?_⟩
    have mD : M D = none := (rm.2 D (.inr rfl)).2
    have d2 : H2 D = some o := ((e1.trans e2) D _ mD hD).1
    refine ps_lift rs2 rm2 d2 h2 (ec.ext (e1.trans e2)) fun us vs M3 uv vv H3 hl e3 rm3 d3 l1 l2 q3 => ?_
    exact k (u :: us) (v :: vs) M3 (p :: uv) (q :: vv) H3 (by simp [hl]) ((e1.trans e2).trans e3) rm3 d3 (RepL.cons (Rep.ext (e2.trans e3) r1) l1) (RepL.cons (Rep.ext e3 r2) l2) q3
theorem allK_ok {H : Hp} {M : Mp} : ∀ {us : List T} {uv : List V} {ks : List Key}, RepL x H M us uv → allK us = some ks → uv = ks.map kV ∧ ks.length = us.length
  | [], uv, ks, r, h => by unfold RepL at r; subst r; unfold allK at h; cases h; exact ⟨rfl, rfl⟩
  | u :: us, uv, ks, r, h => by
    unfold RepL at r
    obtain ⟨v, ws, rfl, r1, r2⟩ := r
    unfold allK at h
    split at h
    · rename_i k ks' e1 e2
      cases h
      obtain ⟨a, b⟩ := allK_ok r2 e2
      exact ⟨by rw [a, keyT_ok r1 e1]; rfl, by simp [b]⟩
    · cases h
theorem merge_app : ∀ (more kvs : List (Key × V)), ((kvs ++ more).map (·.1)).Nodup → mergeK kvs more = kvs ++ more
  | [], kvs, _ => by show kvs = _; simp
  | p :: r, kvs, h => by
    have hn : valV kvs p.1 = none := by
      cases e : valV kvs p.1 with
      | none => rfl
      | some v =>
        exfalso
        have hm : p.1 ∈ kvs.map (·.1) := by
          unfold valV at e
          cases q : kvs.find? (fun kv => decide (kv.1 = p.1)) with
          | none => simp [q] at e
          | some kv =>
            have h1 := List.find?_some q
            have h2 := List.mem_of_find?_eq_some q
            exact List.mem_map.mpr ⟨kv, h2, by simpa using h1⟩
        rw [List.map_append, List.nodup_append] at h
        exact h.2.2 _ hm _ (by simp) rfl
    have e := putK_new p.2 hn
    show mergeK (putK kvs p.1 p.2) r = _
    rw [e, merge_app r (kvs ++ [(p.1, p.2)]) (by simpa using h)]
    simp
theorem zip_kv {ks : List Key} : ∀ {vv : List V}, ks.length = vv.length → (ks.map kV).zip vv = (ks.zip vv).map fun kv => (kV kv.1, kv.2) := by
  induction ks with
  | nil => intro vv _; rfl
  | cons k ks ih =>
    intro vv h
    cases vv with
    | nil => simp at h
    | cons v vv => simp [ih (vv := vv) (by simpa using h)]
theorem pdic {keys : List (Option Expr)} {values : List Expr} {trs : List (TE1 × TE1)} (h : PP1 X x W pos keys values trs) (h0 : keys ≠ [] := by simp) (h15 : keys.length ≤ 15 := by simp) : PE1 X x W (.Dict keys values pos) (tDic trs) := by
  obtain ⟨h1, h2, h3, _⟩ := h.low
  refine imp_e (pe_disp h1 h2 h3 h0 h15) fun σ H Q ⟨τ, M, Q', E', rs, rm, h, q, ec⟩ => ?_
  intro D hD
  have mD := rm.free hD
  have nfD := rm.nf hD
  have rsD : RelS (x.hid D) W (upd H D (.dK [])) M σ τ := ⟨rs.1, fun i t e => let ⟨v, a, b⟩ := rs.2.1 i t e; ⟨v, a, (b.hid hD).ext (Ext.new hD)⟩, W.Zs (Ext.new hD) rs.2.2⟩
  refine ps_lift rsD (rm.hidNew hD) upd_same h (fun t M1 cls d H1 e rm1 rx q => ?_) fun us vs M1 uv vv H1 hlen e1 rm1 d1 l1 l2 h4 => ?_
  · have m1 := (rm1.2 D (.inr rfl)).2
    exact ec t M1 cls d H1 ((Ext.new hD).trans e) rm1.unhid (RepX.unhid m1 rx) q
  · split at h4
    · rename_i ks e
      obtain ⟨nd, h5, h4⟩ := h4
      obtain ⟨k1, k2⟩ := allK_ok l1 e
      have m1 := (rm1.2 D (.inr rfl)).2
      have lk : ks.length = vv.length := by rw [k2, hlen, l2.length]
      refine ⟨d1, ks.zip vv, by rw [k1, zip_kv lk], by rw [len_zip lk, ← lk, k2]; exact h5, ?_⟩
      have em : mergeK [] (ks.zip vv) = ks.zip vv := by
        have := merge_app (ks.zip vv) [] (by
          rw [List.nil_append, map_fst_zip (fun k => k) lk, List.map_id']
          exact nd)
        simpa using this
      rw [em]
      have ee : Ext M H M1 (upd H1 D (.dK (ks.zip vv))) := fun a o h1 h2 => by
        have hne : a ≠ D := fun z => by subst z; rw [hD] at h2; cases h2
        obtain ⟨a1, a2⟩ := ((Ext.new hD).trans e1) a o h1 h2
        exact ⟨by rw [upd_ne hne]; exact a1, a2⟩
      have lu := RepL.unhid (o := .dK (ks.zip vv)) (z := (.dic ks, vs)) m1 l2
      have rmC : RelM (x.hid D) (upd H1 D (.dK (ks.zip vv))) M1 := rm1.hidChg
      rcases h4 with h4 | h4
      · refine q _ M1 _ _ ee rmC.unhid ?_ h4
        unfold Rep
        exact ⟨D, vv, rfl, .inl ⟨m1, nfD, lk, upd_same⟩, (RepL.unhid (o := .tup []) (z := (.lst, [])) m1 lu.2.1).1⟩
      · refine q _ _ _ _ (fun a o h3 h4 => ?_) (rmC.unhidM (k := .dic ks) nfD ⟨lk, upd_same⟩ lu.2.1) rep_obj_ (h4 D m1)
        have hne : a ≠ D := fun z => by subst z; rw [hD] at h4; cases h4
        obtain ⟨a1, a2⟩ := ee a o h3 h4
        exact ⟨a1, by rw [updM_ne hne]; exact a2⟩
    · exact h4.elim
end
end TL

set_option Elab.async false
set_option linter.all false
set_option maxRecDepth 100000
/-! TL15: a def by its own reading; the law's end. -/
namespace TL
open PySem PySem.Spec PyProof.Rows L2
/-- a def's promise: its own reading -/
def ownSp (N : List Str) (n : Nat) (t : TS1) : Sp1 := fun ts M Q E => ts.length = n ∧ t (endsOf Q E) (startT N ts) M
theorem hu64 {k : Nat} {A : Around} (hr : Room k A) : A.units + 64 < cLine := by have := hr.un; omega
section
variable {P : Program} {w : World} {K : PySem.W.Frag} {mg : Str → Option Value} {base : Heap}
theorem fnG_mk {st : Stmt} {k : Nat} {f : Addr} {fd : FuncData} {name qual : Str} {N ps : List Str} {n : Nat} {x : Tx} {t : TS1} (F : L2.Fun K name qual st f fd) (S : FnScope N ps (defScope st)) (hn : n = ps.length)
    (der : ∀ (cdv : Value) (A : Around) (outer : List Env) (s : Shared) (H : Hp) (E : XK), Room k (A.deeper (envOfC qual (defScope st) s.heap.objs.size f cdv)) → Ard base (A.deeper (envOfC qual (defScope st) s.heap.objs.size f cdv)) →
      Takes (cxOf (CX P w) P w K mg base N qual (defScope st) f cdv A outer s H E) (fun cls d _ H => E cls d H) →
      PassesOwn (model P w) (cxOf (CX P w) P w K mg base N qual (defScope st) f cdv A outer s H E).A (cxOf (CX P w) P w K mg base N qual (defScope st) f cdv A outer s H E).env (cxOf (CX P w) P w K mg base N qual (defScope st) f cdv A outer s H E).xe →
      PSs1 (cxOf (CX P w) P w K mg base N qual (defScope st) f cdv A outer s H E) x (Wz.of fun cls d _ H => E cls d H) (defBody st) t) :
    FnG P w K mg base (k + 1) f fd ps (liftSp x (ownSp N n t)) := by
  obtain ⟨oc, od, kV, doc, pm, an, cdv, ct, osl, e, lk, hcd⟩ := F.ex
  subst e
  exact fnG_of lk hcd S t (fun ts M Q E h => by rw [← hn]; exact h.1) (fun A outer s H E hr hA tk => der cdv A outer s H E hr hA tk (passes_of rfl)) fun ts M Q E h => h.2
end
theorem exm_of {K : PySem.W.Frag} {C S : Addr} {b : Bool} (h1 : PySem.W.subIn K (.ref S) (.type "BaseException") = some true) (h2 : PySem.W.isClsIn K S = true) (h3 : PySem.W.typeIn K (.ref S) = some (.type "type")) (h4 : PySem.W.subIn K (.ref C) (.ref S) = some b) :
    PySem.W.exmOne K (.ref C) (.ref S) = some b := by
  have e1 : (PySem.W.subIn K (.ref S) (.type "BaseException") == some true) = true := by rw [h1] <;> rfl
  have e2 : ((PySem.W.clsIn K S).isSome && PySem.W.typeIn K (.ref S) == some (.type "type")) = true := by
    have h2' : (PySem.W.clsIn K S).isSome = true := h2
    rw [h2', h3] <;> rfl
  show (if (PySem.W.subIn K (.ref S) (.type "BaseException") == some true) = true then (if ((PySem.W.clsIn K S).isSome && PySem.W.typeIn K (.ref S) == some (.type "type")) = true then PySem.W.subIn K (.ref C) (.ref S) else none) else none) = some b
  rw [if_pos e1, if_pos e2]
  exact h4
end TL
namespace TLA
open PySem PySem.W PySem.Calls PyProof.Rows PySem.Spec L2 Att TL
theorem attach_callG {l : OpenLaw} {n : Nat} {q : Program} {loose : List Str} {XP : (Str → Option Value) → Heap → Prop} {YP : World → Heap → Prop} {d : DefRec}
    (hn : l.most = some n) (hdf : d.params.defaults = [])
    (call : ∀ (w : World) (s₀ s₁ : Shared) (mg mb : Str → Option Value) (fa : Addr) (o : Obj) (pm cd doc : Value) (a : Addr) (vs : List Value) (ns : List Int),
      Ground q loose [] XP w s₀ mg mb s₁.heap → YP w s₁.heap →
      s₁.heap.get? fa = some o → o.data = .func (docDef d.name d.params d.body d.scope pm cd doc) → s₁.heap.CodeRec cd d.name → mg d.name = some (.ref fa) →
      s₁.heap.get? a = some { cls := .type "list", data := .seq vs.toArray } → IntsAre vs ns → ns.length ≤ n → (∀ k ∈ ns, Builtin.Int.intBits k ≤ 1048576) → s₁.gens = #[] → a ≠ sysModules →
      codeAny (model l.prog w) callerA (.call (.ref fa) ⟨[.ref a], []⟩) (fun r s' => r = .ok (.ret (.bool true)) ∧ OldK s₁.heap s'.heap ∧ s'.os = s₁.os ∧ AllBare s'.gens) s₁) :
    WalkO q loose XP YP l.row.toRowW d [] (fun f vs => PySem.call f vs) := by
  intro w s₀ s₁ mg mb G Y fa o pm cd doc dV kV ho hd hcd hD hmg hg args vals as hpre hlay hrd hwl hlo
  obtain rfl : dV = .none := Dflts.none hD hdf
  obtain rfl : kV = .none := Dflts.noKw hD
  obtain ⟨a, vs, ns, rfl, rfl, hobj, hints, hlen⟩ := script_of hn hpre hwl
  have hna : a ≠ sysModules := by
    intro e
    have hm : a ∈ as := by
      cases hrd with
      | cons h1 h2 =>
        cases h1 with
        | list q1 q2 q3 q4 => exact List.mem_append_left _ List.mem_cons_self
    have := hlo a hm
    rw [e] at this
    simp at this
  refine enter_call (codeAny_mono (call w s₀ s₁ mg mb fa o pm cd doc a vs ns G Y ho (fd_plain hd) hcd hmg hobj hints hlen (script_bits hlay) hg hna) fun r s' hq => ?_)
  obtain ⟨rfl, h2, h3, h4⟩ := hq
  exact ⟨.inl ⟨.bool true, .bool true, [], rfl, fun _ => rfl, .bool true, post_true l _, fun _ => ⟨List.Pairwise.nil, fun _ hm => (nomatch hm)⟩⟩, h2, h3, h4⟩
end TLA
namespace TL
open PySem PySem.Spec PyProof.Rows L2
theorem law_call1 {P : Program} {w : World} {K : PySem.W.Frag} {mg mb : Str → Option Value} {k : Nat} {fa a : Addr} {fd : FuncData} {y : Str} {cd : Nat → Addr} {sp : Sp1} {s₁ : Shared} {vs : List Value} {ns : List Int}
    (KX : K.In s₁.heap) (hns : s₁.heap.Ns mainGlobals mg) (hb : s₁.heap.Ns builtinsNs mb) (hbb : ∀ x : Str, x ≠ "__name__" → mb x = bootBuiltins x) (hlim : s₁.heap.NoLimit) (hg : s₁.gens = #[])
    (ha : s₁.heap.get? a = some { cls := .type "list", data := .seq vs.toArray }) (hi : IntsAre vs ns) (hl : ns.length ≤ sizeLine) (hr : Room k callerA) (hna : a ≠ sysModules) (hsm : ∃ mm, s₁.heap.Ns sysModules mm)
    (F : ∀ base : Heap, K.In base → base.Ns mainGlobals mg → FnG P w K mg base k fa fd [y] (liftSp ⟨K, cd, fun _ => False⟩ sp)) (hbind : Binds K fd [y] [])
    (hsp : sp [.node .lst (ns.map T.int)] (fun _ => none) (fun t _ => t = .bl true) fun _ _ => False) :
    codeAny (model P w) callerA (.call (.ref fa) ⟨[.ref a], []⟩) (fun r s' => r = .ok (.ret (.bool true)) ∧ OldK s₁.heap s'.heap ∧ s'.os = s₁.os ∧ AllBare s'.gens) s₁ := by
  have rv := vals_ints hi
  have lenV := hi.length
  have core : ∀ H : Hp, Only H → SqL K H a (ns.map V.int) → HOk P w H s₁.heap → (∀ b, H b ≠ none → b = a) → (H a ≠ none → K.lookup a = none) →
      codeAny (model P w) callerA (.call (.ref fa) ⟨[.ref a], []⟩) (fun r s' => r = .ok (.ret (.bool true)) ∧ OldK s₁.heap s'.heap ∧ s'.os = s₁.os ∧ AllBare s'.gens) s₁ := by
    intro H hO hS hok hA hK
    have base_of : ∀ {b : Addr} {o : Obj}, s₁.heap.get? b = some o → H b = none → (hidT s₁.heap H).get? b = some o := fun e n => hidT_get e n
    have noA : ∀ {b : Addr} {o : Obj} {es : Array DictEntry} {ep : Nat}, s₁.heap.get? b = some o → o.data = .dict es ep → H b = none := fun {b o es ep} e d => by
      cases q : H b with
      | none => rfl
      | some u =>
        have e' : b = a := hA b (by rw [q]; simp)
        subst e'
        rw [ha] at e; cases e
        have d' : Data.seq vs.toArray _ = Data.dict es ep := d
        cases d'
    have nsK : ∀ {b : Addr} {m : Str → Option Value}, s₁.heap.Ns b m → (hidT s₁.heap H).Ns b m := fun {b m} ⟨o, es, ep, e, d, r⟩ => ⟨o, es, ep, base_of e (noA e d), d, r⟩
    have hKb : K.In (hidT s₁.heap H) := fun b o e => base_of (KX b o e) (by
      cases q : H b with
      | none => rfl
      | some u =>
        have e' : b = a := hA b (by rw [q]; simp)
        subst e'
        rw [hK (by rw [q]; simp)] at e; cases e)
    have hM : Mod K mg (hidT s₁.heap H) := ⟨hKb, nsK hns, ⟨mb, nsK hb, hbb⟩, let ⟨mc, h1, h2⟩ := hlim; ⟨mc, nsK h1, h2⟩⟩
    have e0 : Env0 P w K mg (hidT s₁.heap H) callerA [] s₁ H := ⟨rfl, hM, fun b o e => of_hidT e, Nat.le_of_eq (hidT_size _ _), trivial, fun b hb => absurd (show b ∈ ([] : List Addr) from hb) (by simp), hok, .of_eq hg⟩
    have ard : Ard (hidT s₁.heap H) callerA := by
      refine ⟨rfl, ?_⟩
      obtain ⟨mm, hmm⟩ := hsm
      obtain ⟨o, es, ep, e, d, _⟩ := nsK hmm
      exact ⟨o, es, ep, e, d⟩
    have spec : liftSp ⟨K, cd, fun _ => False⟩ sp [.ref a] H (fun v _ => v = .bl true) fun _ _ _ => False := by
      refine ⟨[.node .lst (ns.map T.int)], fun _ => none, fun t _ => t = .bl true, fun _ _ => False, ?_, ⟨fun a k ts e => (by cases e), fun a f => False.elim f⟩, hsp, fun t M1 v H1 e rm r q => ?_, fun _ _ _ _ _ _ _ _ q => q⟩
      · refine RepL.cons ?_ RepL.nil
        unfold Rep
        have ri : ∀ l : List Int, RepL ⟨K, cd, fun _ => False⟩ H (fun _ => none) (l.map T.int) (l.map V.int) := fun l => by
          induction l with
          | nil => exact RepL.nil
          | cons i l ih => exact RepL.cons rep_int_ ih
        refine ⟨a, _, rfl, ?_, ri ns⟩
        rcases hS with h | h
        · exact .inl ⟨rfl, fun f => f, h⟩
        · exact .inr h
      · subst q
        exact rep_bl r
    refine codeAny_mono ((F _ hKb (nsK hns)).run callerA [] s₁ H ⟨[.ref a], []⟩ [.ref a] [.ref a] _ _ hr ard e0 (hbind s₁ [.ref a] KX rfl) (.cons rfl .nil) spec) fun r s' h => ?_
    cases r with
    | error e =>
      obtain ⟨_, _, _, _, _, _, _, _, _, _, _, _, z⟩ := h
      exact z.elim
    | ok fl =>
      cases fl with
      | next => exact False.elim h
      | brk => exact False.elim h
      | cont => exact False.elim h
      | ret u =>
        obtain ⟨v, H', os, bare, un, hok', r', q⟩ := h
        have q' : v = .bl true := q
        subst q'
        obtain rfl : u = Value.bool true := r'
        refine ⟨rfl, OldK.of_keep fun b o e => ?_, os, bare⟩
        cases q : H b with
        | none => exact un.keep b o e q (by intro z; exact absurd (show b ∈ ([] : List Addr) from z) (by simp)) (by simp)
        | some u =>
          rcases hO b with z | ⟨ob, xs, z⟩
          · rw [q] at z; cases z
          · have z2 := un.frzs b ob _ z
            obtain ⟨e1, _⟩ := hok b _ z
            obtain ⟨e2, _⟩ := hok' b _ z2
            rw [e] at e1; cases e1
            exact e2
  cases hk : K.lookup a with
  | some o =>
    have e := KX a o hk
    rw [ha] at e
    cases e
    refine core (fun _ => none) (fun _ => .inl rfl) (.inr ⟨_, vs.toArray, _, hk, rfl, rfl, rfl, by rw [List.size_toArray, lenV]; exact hl, by simpa using rv⟩) (fun b u z => by have z' : (none : Option HO) = some u := z; cases z') (fun b z => absurd rfl z) fun z => absurd rfl z
  | none =>
    refine core (fun b => if b = a then some (.frz { cls := .type "list", data := .seq vs.toArray } (.lst (ns.map V.int))) else none) (fun b => ?_) (.inl (.inr ⟨{ cls := .type "list", data := .seq vs.toArray }, if_pos rfl⟩)) (fun b u z => ?_) (fun b z => ?_) fun _ => hk
    · by_cases hb : b = a
      · exact .inr ⟨_, _, if_pos hb⟩
      · exact .inl (if_neg hb)
    · by_cases hb : b = a
      · have z' := (if_pos hb).symm.trans z
        cases z'
        subst hb
        exact ⟨ha, by rw [List.length_map]; exact hl, vs, _, rv, ha⟩
      · have z' := (if_neg hb).symm.trans z
        cases z'
    · by_cases hb : b = a
      · exact hb
      · exact absurd (if_neg hb) z
theorem walk_of1 {l : PySem.W.OpenLaw} {n k : Nat} {q : Program} {loose : List Str} {XP : (Str → Option Value) → Heap → Prop} {YP : World → Heap → Prop} {d : DefRec} {K : Params → PySem.W.Frag} {sp : Sp1} {y : Str}
    (hn : l.most = some n) (hn2 : n ≤ sizeLine) (hdf : d.params.defaults = []) (hr : Room k callerA)
    (hY : ∀ (w : World) (h : Heap), YP w h → (K w.params).In h) (hI : importsNone q = true)
    (F : ∀ (w : World) (mg : Str → Option Value) (fa : Addr) (h : Heap), (K w.params).In h → h.Ns mainGlobals mg → mg d.name = some (.ref fa) →
      ∃ (cd : Nat → Addr) (fd : FuncData), Binds (K w.params) fd [y] [] ∧
        ∀ base : Heap, (K w.params).In base → base.Ns mainGlobals mg → FnG l.prog w (K w.params) mg base k fa fd [y] (liftSp ⟨K w.params, cd, fun _ => False⟩ sp))
    (hsp : ∀ ns : List Int, ns.length ≤ n → (∀ z ∈ ns, Builtin.Int.intBits z ≤ 1048576) → sp [.node .lst (ns.map T.int)] (fun _ => none) (fun t _ => t = .bl true) fun _ _ => False) :
    PySem.W.WalkO q loose XP YP l.row.toRowW d [] (fun f vs => PySem.call f vs) := by
  refine TLA.attach_callG hn hdf fun w s₀ s₁ mg mb fa o pm cd doc a vs ns G Y ho hd hcd hmg hobj hints hlen hbits hg hna => ?_
  have KX := hY w _ Y
  obtain ⟨cd, fd, hb, hF⟩ := F w mg fa _ KX G.T.g hmg
  exact law_call1 KX G.T.g G.T.b G.T.builtins G.T.nolimit hg hobj hints (Nat.le_trans hlen hn2) hr hna (let ⟨mm, h, _⟩ := (G.T.seer hI).mods; ⟨mm, h⟩) hF hb (hsp ns hlen hbits)
end TL

set_option Elab.async false
set_option linter.all false
set_option maxRecDepth 100000
/-! TL16: short names for what the printed texts use. -/
namespace TL
open PySem PySem.Spec PyProof.Rows L2
abbrev subA : R21 := gI0 fun i j => .int (i - j)
abbrev divA : R21 := gI CDivW fun i j => .int (i / j)
abbrev modA : R21 := gI (fun _ j => 0 < j) fun i j => .int (i % j)
abbrev powA : R21 := gI CPow fun i j => .int (i ^ j.toNat)
abbrev shlA : R21 := gI CPow fun i j => .int (i * 2 ^ j.toNat)
abbrev shrA : R21 := gI (fun _ j => 0 ≤ j) fun i j => .int (i / 2 ^ j.toNat)
abbrev orA : R21 := gI0 fun i j => .int (Builtin.bitOr i j)
abbrev xorA : R21 := gI0 fun i j => .int (Builtin.bitXor i j)
abbrev ltA : R21 := gI0 fun i j => .bl (decide (i < j))
abbrev leA : R21 := gI0 fun i j => .bl (decide (i ≤ j))
abbrev gtA : R21 := gI0 fun i j => .bl (decide (j < i))
abbrev geA : R21 := gI0 fun i j => .bl (decide (j ≤ i))
theorem bb_len : bootBuiltins "len" = some (.builtin "len") := by decide +kernel
theorem bb_max : bootBuiltins "max" = some (.builtin "max") := by decide +kernel
theorem bb_min : bootBuiltins "min" = some (.builtin "min") := by decide +kernel
theorem bb_abs : bootBuiltins "abs" = some (.builtin "abs") := by decide +kernel
theorem bb_ord : bootBuiltins "ord" = some (.builtin "ord") := by decide +kernel
theorem bb_repr : bootBuiltins "repr" = some (.builtin "repr") := by decide +kernel
theorem bb_divmod : bootBuiltins "divmod" = some (.builtin "divmod") := by decide +kernel
theorem bb_sum : bootBuiltins "sum" = some (.builtin "sum") := by decide +kernel
theorem bb_sorted : bootBuiltins "sorted" = some (.builtin "sorted") := by decide +kernel
theorem bb_isinstance : bootBuiltins "isinstance" = some (.builtin "isinstance") := by decide +kernel
theorem bb_int : bootBuiltins "int" = some (.type "int") := by decide +kernel
theorem bb_str : bootBuiltins "str" = some (.type "str") := by decide +kernel
theorem bb_bool : bootBuiltins "bool" = some (.type "bool") := by decide +kernel
theorem bb_list : bootBuiltins "list" = some (.type "list") := by decide +kernel
theorem bb_tuple : bootBuiltins "tuple" = some (.type "tuple") := by decide +kernel
theorem bb_dict : bootBuiltins "dict" = some (.type "dict") := by decide +kernel
/-- a method of a class of the text -/
def inCls (s : Stmt) (j : Nat) : Stmt := match s with
  | .ClassDef _ _ _ b _ _ _ _ _ _ _ => b.getD j (.Pass ⟨0, 0, 0, 0⟩)
  | _ => .Pass ⟨0, 0, 0, 0⟩
end TL

set_option Elab.async false
set_option linter.all false
set_option maxRecDepth 100000
/-! TL17: readings run: equations for simp. -/
namespace TL
open PySem PySem.Spec PyProof.Rows L2
section
variable {D : TEnds} {τ : TSt} {M : Mp} {Q E : TK} {t u : TS1} {te ta tb tc to ti : TE1} {c d : TT1} {r : R21} {g : TG1}
@[simp] theorem e_seq : tSeq1 t u D τ M = t { D with nx := u D } τ M := rfl
@[simp] theorem e_next : tNext1 D τ M = D.nx τ M := rfl
@[simp] theorem e_brk : tBk1 D τ M = D.bk τ M := rfl
@[simp] theorem e_cnt : tCt1 D τ M = D.ct τ M := rfl
@[simp] theorem e_if : tIfS1 c t u D τ M = c τ M (fun b M1 => if b = true then t D τ M1 else u D τ M1) (dex D τ) := rfl
@[simp] theorem e_ret : tRet1 te D τ M = te τ M D.rt (dex D τ) := rfl
@[simp] theorem e_retn : tRetN1 D τ M = D.rt .non M := rfl
@[simp] theorem e_drop : tDrop1 te D τ M = te τ M (fun _ M1 => D.nx τ M1) (dex D τ) := rfl
@[simp] theorem e_asg : tAsg1 te g D τ M = te τ M (fun u M1 => g u τ M1 D.nx (dex D τ)) (dex D τ) := rfl
@[simp] theorem e_for {wi : TI1} : tFor1 wi g t D τ M = wi τ M (fun items S M1 => forR S g t D items τ M1) (dex D τ) := rfl
@[simp] theorem e_for0 {S : Mp → Prop} : forR S g t D [] τ M = (S M ∧ D.nx τ M) := rfl
@[simp] theorem e_forc {S : Mp → Prop} {a : T} {as : List T} : forR S g t D (a :: as) τ M = (S M ∧ g a τ M (fun τ1 M1 => t { D with nx := forR S g t D as, ct := forR S g t D as, bk := D.nx } τ1 M1) (dex D τ)) := rfl
@[simp] theorem e_raise {C : Nat} {ns : List Str} {tas : TA1} : tRaise1 C ns tas D τ M = tas τ M (fun us M1 => us.length = ns.length ∧ D.ex (.node (.exc C ns) us) τ M1) (dex D τ) := rfl
@[simp] theorem e_try {cl : List Ct1} : tTry1 t cl D τ M = t { D with ex := tryx D cl } τ M := rfl
@[simp] theorem e_tryx0 {v : T} : tryx D [] v τ M = D.ex v τ M := rfl
@[simp] theorem e_tryxc {k : Ct1} {l : List Ct1} {C : Nat} {ns : List Str} {us : List T} : tryx D (k :: l) (.node (.exc C ns) us) τ M = (match k.hit C with
      | some true => ∀ a, M a = none → k.ts a (.node (.exc C ns) us) (loseT D k.o) (putT k.o a τ) M
      | some false => tryx D l (.node (.exc C ns) us) τ M
      | none => False) := rfl
@[simp] theorem e_lose0 : loseT D none = { D with ex := fun _ _ _ => False } := rfl
@[simp] theorem e_lose1 {i : Nat} : loseT D (some i) = { nx := fun τ M => D.nx (τ.set i none) M, rt := D.rt, bk := fun τ M => D.bk (τ.set i none) M, ct := fun τ M => D.ct (τ.set i none) M, ex := fun _ _ _ => False } := rfl
@[simp] theorem e_put0 {a : Addr} : putT none a τ = τ := rfl
@[simp] theorem e_put1 {a : Addr} {i : Nat} : putT (some i) a τ = τ.set i (some (.obj a)) := rfl
@[simp] theorem e_dex {v : T} : dex D τ v M = D.ex v τ M := rfl
@[simp] theorem e_var {i : Nat} : tVar1 i τ M Q E = (match τ[i]? with
  | some (some t) => Q t M
  | _ => False) := rfl
@[simp] theorem e_c {v : T} : tC1 v τ M Q E = Q v M := rfl
@[simp] theorem e_op : tOp1 r ta tb τ M Q E = ta τ M (fun u M1 => tb τ M1 (fun v M2 => r u v M2 Q) E) E := rfl
@[simp] theorem e_gI {C : Int → Int → Prop} {f : Int → Int → T} {i j : Int} : gI C f (.int i) (.int j) M Q = (C i j ∧ Q (f i j) M) := rfl
@[simp] theorem e_gI0 {f : Int → Int → T} {i j : Int} : gI0 f (.int i) (.int j) M Q = Q (f i j) M := rfl
@[simp] theorem e_addI {i j : Int} : addA (.int i) (.int j) M Q = Q (.int (i + j)) M := rfl
@[simp] theorem e_addS {i j : Str} : addA (.str i) (.str j) M Q = (i.length + j.length ≤ sizeLine ∧ Q (.str (i ++ j)) M) := rfl
@[simp] theorem e_mulI {i j : Int} : mulA (.int i) (.int j) M Q = ((CMul i j ∨ CMulW i j) ∧ Q (.int (i * j)) M) := rfl
@[simp] theorem e_mulS {i : Str} {j : Int} : mulA (.str i) (.int j) M Q = (MulOk i j ∧ Q (.str (Txt.mul i j)) M) := rfl
@[simp] theorem e_bl : tBl1 te τ M = fun Q E => te τ M (fun u M1 => bl1 Q M1 u) E := rfl
@[simp] theorem e_blk {Q : Bool → Mp → Prop} {b : Bool} : bl1 Q M (.bl b) = Q b M := rfl
@[simp] theorem e_and {Q : Bool → Mp → Prop} : tAnd1 c d τ M Q E = c τ M (fun k M1 => if k = true then d τ M1 Q E else Q false M1) E := rfl
@[simp] theorem e_or {Q : Bool → Mp → Prop} : tOr1 c d τ M Q E = c τ M (fun k M1 => if k = true then Q true M1 else d τ M1 Q E) E := rfl
@[simp] theorem e_not {Q : Bool → Mp → Prop} : tNot1 c τ M Q E = c τ M (fun k M1 => Q (!k) M1) E := rfl
@[simp] theorem e_yes {Q : Bool → Mp → Prop} : tYes1 τ M Q E = Q true M := rfl
@[simp] theorem e_andV : tAndV1 ta tb τ M Q E = ta τ M (fun u M1 => match u with
  | .bl k => if k = true then tb τ M1 Q E else Q (.bl false) M1
  | _ => False) E := rfl
@[simp] theorem e_orV : tOrV1 ta tb τ M Q E = ta τ M (fun u M1 => match u with
  | .bl k => if k = true then Q (.bl true) M1 else tb τ M1 Q E
  | _ => False) E := rfl
@[simp] theorem e_notV : tNotV1 ta τ M Q E = ta τ M (fun u M1 => match u with
  | .bl k => Q (.bl (!k)) M1
  | _ => False) E := rfl
@[simp] theorem e_neg : tNeg1 ta τ M Q E = ta τ M (fun u M1 => negI u M1 Q) E := rfl
@[simp] theorem e_negI {i : Int} : negI (.int i) M Q = Q (.int (-i)) M := rfl
@[simp] theorem e_ifx : tIf1 c ta tb τ M Q E = c τ M (fun k M1 => if k = true then ta τ M1 Q E else tb τ M1 Q E) E := rfl
@[simp] theorem e_nil {Q : List T → Mp → Prop} : tNil1 τ M Q E = Q [] M := rfl
@[simp] theorem e_cons {tr : TA1} {Q : List T → Mp → Prop} : tCons1 ta tr τ M Q E = ta τ M (fun u M1 => tr τ M1 (fun us M2 => Q (u :: us) M2) E) E := rfl
@[simp] theorem e_call {sp : Sp1} {dts : List T} {tas : TA1} : tCall1 sp dts tas τ M Q E = tas τ M (fun us M1 => sp (us ++ dts) M1 Q E) E := rfl
@[simp] theorem e_cb {r1 : R1} {tas : TA1} : tCB1 r1 tas τ M Q E = tas τ M (fun us M1 => r1 us M1 Q) E := rfl
@[simp] theorem e_lst {tas : TA1} : tLst1 tas τ M Q E = tas τ M (fun us M1 => us.length ≤ sizeLine ∧ newL us M1 Q) E := rfl
@[simp] theorem e_tup {tas : TA1} : tTup1 tas τ M Q E = tas τ M (fun us M1 => us.length ≤ sizeLine ∧ Q (.node .tup us) M1) E := rfl
@[simp] theorem e_gName {i : Nat} {v : T} {Q : TSt → Mp → Prop} : gName1 i v τ M Q E = Q (τ.set i (some v)) M := rfl
@[simp] theorem e_gSub {v : T} {Q : TSt → Mp → Prop} : gSub1 to ti v τ M Q E = to τ M (fun o M1 => ti τ M1 (fun i M2 => setL1 o i v M2 fun M3 => Q τ M3) E) E := rfl
@[simp] theorem e_sl {tl th : TO1} : tSl1 te tl th τ M Q E = te τ M (fun u M1 => tl τ M1 (fun l M2 => th τ M2 (fun h M3 => sl1 u l h M3 Q) E) E) E := rfl
@[simp] theorem e_noP {Q : Option Int → Mp → Prop} : tNoP1 τ M Q E = Q none M := rfl
@[simp] theorem e_part {Q : Option Int → Mp → Prop} : tPart1 te τ M Q E = te τ M (fun u M1 => match u with
  | .int i => Q (some i) M1
  | _ => False) E := rfl
@[simp] theorem e_slS {z : Str} {lo hi : Option Int} : sl1 (.str z) lo hi M Q = (z.length ≤ sizeLine ∧ Q (.str (cutS z lo hi)) M) := rfl
@[simp] theorem e_bm {n : String} {r : Rm} {tas : TA1} : tBM1 n r to tas τ M Q E = to τ M (fun u M1 => tyT M1 n u ∧ tas τ M1 (fun us M2 => r u us M2 Q) E) E := rfl
@[simp] theorem e_tyS {y : Str} : tyT M "str" (.str y) = True := rfl
@[simp] theorem e_lc {wi : TI1} {nt : NT} {tt : TT1} {vs : List Nat} : tLc1 wi nt tt te vs τ M Q E = wi τ M (fun items S M1 => lcR S nt tt te (wipeT τ vs) (fun acc M2 => newL acc M2 Q) items [] M1) E := rfl
@[simp] theorem e_rgA {tas : TA1} {R : List T → (Mp → Prop) → Mp → Prop} : iRgA tas τ M R E = tas τ M (fun us M1 => match us with
  | [.int j] => (-(2 ^ 62) ≤ j ∧ j < 2 ^ 62) ∧ R (rngT 0 j.toNat) (fun _ => True) M1
  | _ => False) E := rfl
@[simp] theorem e_sq {R : List T → (Mp → Prop) → Mp → Prop} : iSq1 te τ M R E = te τ M (fun u M1 => match u with
  | .str z => R (signsT z) (fun _ => True) M1
  | u => match rdS M1 u with
    | some ts => R ts (fun M2 => stay M2 u ts) M1
    | none => False) E := rfl
@[simp] theorem e_lenS {y : Str} : lenR [.str y] M Q = (y.length ≤ sizeLine ∧ Q (.int y.length) M) := rfl
@[simp] theorem e_lenL {us : List T} : lenR [.node .lst us] M Q = ((NK.lst = .lst ∨ NK.lst = .tup) ∧ Q (.int us.length) M) := rfl
@[simp] theorem e_max {i j : Int} : max1 [.int i, .int j] M Q = Q (.int (if j > i then j else i)) M := rfl
@[simp] theorem e_min {i j : Int} : min1 [.int i, .int j] M Q = Q (.int (if j < i then j else i)) M := rfl
@[simp] theorem e_intI {i : Int} : int1 [.int i] M Q = Q (.int i) M := rfl
@[simp] theorem e_intB {i : Bool} : int1 [.bl i] M Q = Q (.int (if i then 1 else 0)) M := rfl
@[simp] theorem e_repr {v : T} : repr1 [v] M Q = (match toX 40 M v with
    | some d => d.showable = true ∧ d.shown.length ≤ sizeLine ∧ Q (.str d.shown) M
    | none => False) := rfl
@[simp] theorem e_inst {v : T} {n : String} : inst1 [v, .ty n] M Q = (match tyN M v with
    | some a => (a, n, isB a n) ∈ isTab ∧ Q (.bl (isB a n)) M
    | none => False) := rfl
@[simp] theorem e_toXi {n : Nat} {i : Int} : toX n M (.int i) = some (.int i) := by unfold toX; rfl
@[simp] theorem e_toXs {n : Nat} {i : Str} : toX n M (.str i) = some (.str i) := by unfold toX; rfl
@[simp] theorem e_toXb {n : Nat} {i : Bool} : toX n M (.bl i) = some (.bool i) := by unfold toX; rfl
@[simp] theorem e_toXn {n : Nat} : toX n M .non = some .none := by unfold toX; rfl
@[simp] theorem e_eqI {neg : Bool} {i j : Int} : eq1 neg (.int i) (.int j) M Q = Q (.bl (decide (i = j) ^^ neg)) M := rfl
@[simp] theorem e_eqB {neg : Bool} {i j : Bool} : eq1 neg (.bl i) (.bl j) M Q = Q (.bl (decide (i = j) ^^ neg)) M := rfl
@[simp] theorem e_eqS {neg : Bool} {i j : Str} : eq1 neg (.str i) (.str j) M Q = Q (.bl (decide (i = j) ^^ neg)) M := rfl
@[simp] theorem e_tyNs {y : Str} : tyN M (.str y) = some "str" := rfl
@[simp] theorem e_tyNi {y : Int} : tyN M (.int y) = some "int" := rfl
@[simp] theorem e_tyNb {y : Bool} : tyN M (.bl y) = some "bool" := rfl
@[simp] theorem e_tyNn : tyN M .non = some "NoneType" := rfl
@[simp] theorem e_tyNl {us : List T} : tyN M (.node .lst us) = some "list" := rfl
@[simp] theorem e_tyNt {us : List T} : tyN M (.node .tup us) = some "tuple" := rfl
@[simp] theorem e_tyNd {ks : List Key} {us : List T} : tyN M (.node (.dic ks) us) = some "dict" := rfl
@[simp] theorem e_subI {i j : Int} : subA (.int i) (.int j) M Q = Q (.int (i - j)) M := rfl
@[simp] theorem e_divI {i j : Int} : divA (.int i) (.int j) M Q = (CDivW i j ∧ Q (.int (i / j)) M) := rfl
@[simp] theorem e_modI {i j : Int} : modA (.int i) (.int j) M Q = (0 < j ∧ Q (.int (i % j)) M) := rfl
@[simp] theorem e_powI {i j : Int} : powA (.int i) (.int j) M Q = (CPow i j ∧ Q (.int (i ^ j.toNat)) M) := rfl
@[simp] theorem e_ltI {i j : Int} : ltA (.int i) (.int j) M Q = Q (.bl (decide (i < j))) M := rfl
@[simp] theorem e_leI {i j : Int} : leA (.int i) (.int j) M Q = Q (.bl (decide (i ≤ j))) M := rfl
@[simp] theorem e_gtI {i j : Int} : gtA (.int i) (.int j) M Q = Q (.bl (decide (j < i))) M := rfl
@[simp] theorem e_geI {i j : Int} : geA (.int i) (.int j) M Q = Q (.bl (decide (j ≤ i))) M := rfl
@[simp] theorem e_ixS {z : Str} {i : Int} : ix1 (.str z) (.int i) M Q = (z.length ≤ sizeLine ∧ (match L2.atI z.cps.toList i with
      | some c => Q (.str ⟨#[c]⟩) M
      | none => False)) := rfl
@[simp] theorem e_ixL {us : List T} {i : Int} : ix1 (.node .lst us) (.int i) M Q = (match L2.atI us i with
      | some c => Q c M
      | none => False) := rfl
@[simp] theorem e_ixU {us : List T} {i : Int} : ix1 (.node .tup us) (.int i) M Q = (match L2.atI us i with
      | some c => Q c M
      | none => False) := rfl
@[simp] theorem e_ixO {a : Addr} {i : Int} : ix1 (.obj a) (.int i) M Q = (match M a with
      | some (.lst, us) => (match L2.atI us i with
        | some c => Q c M
        | none => False)
      | _ => False) := by
  unfold ix1 rdS
  dsimp only
  split
  · rename_i h
    split at h
    · rename_i e
      cases h
      simp only [e]
      all_goals rfl
    · cases h
  · rename_i h
    split
    · rename_i e
      simp [e] at h
    · rfl
@[simp] theorem e_setO {p : Addr} {k : Int} {v : T} {Q : Mp → Prop} : setL1 (.obj p) (.int k) v M Q = (match M p with
    | some (.lst, ts) => (match ixN ts.length k with
      | some j => Q (updM M p (.lst, ts.set j v))
      | none => False)
    | _ => False) := rfl
@[simp] theorem e_appO {a : Addr} {v : T} : app1 (.obj a) [v] M Q = (match M a with
    | some (.lst, us) => us.length < sizeLine ∧ Q .non (updM M a (.lst, us ++ [v]))
    | _ => False) := rfl
@[simp] theorem e_lenO {a : Addr} : lenR [.obj a] M Q = (match M a with
    | some (.lst, us) => Q (.int us.length) M
    | some (.dic _, us) => Q (.int us.length) M
    | _ => False) := rfl
@[simp] theorem e_own {N : List Str} {n : Nat} {ts : List T} : ownSp N n t ts M Q E = (ts.length = n ∧ t (endsOf Q E) (TL.startT N ts) M) := rfl
@[simp] theorem e_ends_nx : (endsOf Q E).nx τ M = retq Q .non M := rfl
@[simp] theorem e_ends_rt {v : T} : (endsOf Q E).rt v M = retq Q v M := rfl
@[simp] theorem e_ends_ex {v : T} : (endsOf Q E).ex v τ M = exq E v M := rfl
@[simp] theorem e_upd {a : Addr} {o : NK × List T} : updM M a o a = some o := updM_same
@[simp] theorem e_updupd {a : Addr} {o u : NK × List T} : updM (updM M a o) a u = updM M a u := updM_upd
@[simp] theorem e_at0 {α : Type} {x : α} {l : List α} : L2.atI (x :: l) 0 = some x := by
  unfold L2.atI ixN
  simp
@[simp] theorem e_at1 {α : Type} {x y : α} {l : List α} : L2.atI (x :: y :: l) 1 = some y := by
  unfold L2.atI ixN
  rw [if_pos (by omega), if_pos (by simp; omega)]
  rfl
@[simp] theorem e_at2 {α : Type} {x y z : α} {l : List α} : L2.atI (x :: y :: z :: l) 2 = some z := by
  unfold L2.atI ixN
  rw [if_pos (by omega), if_pos (by simp; omega)]
  rfl
@[simp] theorem e_inC {neg : Bool} {c : Nat} {z : Str} : inC neg (.str ⟨#[c]⟩) (.str z) M Q = Q (.bl (decide (c ∈ z.cps.toList) ^^ neg)) M := by
  refine propext ⟨fun ⟨c', e, q⟩ => ?_, fun q => ⟨c, rfl, q⟩⟩
  have : c = c' := by simpa using e
  subst this
  exact q
@[simp] theorem e_lc0 {S : Mp → Prop} {nt : NT} {tt : TT1} {acc : List T} {Q : List T → Mp → Prop} : lcR S nt tt te τ Q [] acc M = (S M ∧ Q acc M) := rfl
@[simp] theorem e_lcc {S : Mp → Prop} {nt : NT} {tt : TT1} {acc : List T} {Q : List T → Mp → Prop} {v : T} {vs : List T} : lcR S nt tt te τ Q (v :: vs) acc M = (S M ∧ match tgt nt v τ with
    | some τ2 => tt τ2 M (fun b M3 => if b = true then te τ2 M3 (fun y M4 => acc.length < sizeLine ∧ lcR S nt tt te τ Q vs (acc ++ [y]) M4) F0 else lcR S nt tt te τ Q vs acc M3) F0
    | none => False) := rfl
@[simp] theorem e_tgt {i : Nat} {v : T} : tgt (.nm i) v τ = some (τ.set i (some v)) := rfl
@[simp] theorem e_wipe0 : wipeT τ [] = τ := rfl
@[simp] theorem e_wipe1 {i : Nat} {l : List Nat} : wipeT τ (i :: l) = (wipeT τ l).set i none := rfl
@[simp] theorem e_exf {i : Nat} {a : Addr} {C : Nat} {ns : List Str} {us : List T} {f : Str} : tExF1 i a (.node (.exc C ns) us) f τ M Q E = (τ[i]? = some (some (.obj a)) ∧ (match (ns.zip us).lookup f with
    | some t => Q t M
    | none => False)) := rfl
@[simp] theorem e_join {a : Str} {v : T} : join1 (.str a) [v] M Q = (match rdS M v with
    | some us => (match allS us with
      | some ys => (ys.map (·.length)).sum + ys.length * a.length ≤ 16777216 ∧ Q (.str (Txt.join a ys)) M
      | none => False)
    | none => False) := rfl
@[simp] theorem e_rdSl {us : List T} : rdS M (.node .lst us) = some us := rfl
@[simp] theorem e_rdSt {us : List T} : rdS M (.node .tup us) = some us := rfl
theorem lk_same {α : Type} {f : Str} {t : α} {l : List (Str × α)} : ((f, t) :: l).lookup f = some t := by simp
theorem mulOk_small {y : Str} {n : Int} (h0 : 0 ≤ n) (h : n ≤ 100000) (hy : y.length ≤ 100) : MulOk y n := by
  have hm : y.length * n.toNat ≤ 100 * 100000 := Nat.mul_le_mul hy (by omega)
  have hs := sizeLine_eq
  refine ⟨by simp; omega, fun h1 _ => ?_, fun h1 _ => ?_⟩
  · have h3 : (y.length : Int) ≤ (2 ^ 63 - 1) / n := by
      refine Int.le_ediv_of_mul_le (by omega) ?_
      have e : (y.length : Int) * n = ((y.length * n.toNat : Nat) : Int) := by
        rw [Int.natCast_mul, Int.toNat_of_nonneg h0]
      rw [e]
      omega
    omega
  · show decide (y.length * n.toNat > sizeLine) = false
    exact decide_eq_false (by omega)
theorem at_nat {α : Type} {l : List α} {i : Nat} {x : α} (h : l[i]? = some x) : L2.atI l (i : Int) = some x := by
  have hi : i < l.length := by
    apply Classical.byContradiction
    intro q
    rw [List.getElem?_eq_none (by omega)] at h
    cases h
  unfold L2.atI ixN
  rw [if_pos (by omega), if_pos (by omega)]
  simpa using h
end
end TL

set_option Elab.async false
set_option linter.all false
set_option maxRecDepth 100000
namespace K25
open PySem PySem.Spec PyProof.Rows L2 TL
def top (i : Nat) : Stmt := PySem.Challenge.pw_steppedtimes_k25_sums.main.body.getD i (.Pass ⟨0, 0, 0, 0⟩)
abbrev s_is_signs : Stmt := top 6
abbrev s_need_signs : Stmt := top 7
abbrev s_sum_of : Stmt := top 8
abbrev s__law_cell : Stmt := top 10
abbrev s__law_box : Stmt := top 11
abbrev s__law_take : Stmt := top 12
abbrev s__law_signs : Stmt := top 13
abbrev s__law_sum : Stmt := top 14
abbrev s__law_turned : Stmt := top 15
abbrev s__law_found : Stmt := top 16
abbrev s__law_case : Stmt := top 17
abbrev s_law : Stmt := top 18
abbrev s_NoSigns : Stmt := inCls (top 2) 0
def hit_NoSigns : Nat → Option Bool := fun C => match C with | 1 => some true | _ => none
def hit_TimesError : Nat → Option Bool := fun C => match C with | 1 => some true | _ => none
structure Fct (P : Program) (w : World) (K : PySem.W.Frag) (mg : Str → Option Value) (base : Heap) (cd fa : Nat → Addr) (fd : Nat → FuncData) (ct : Nat → Tok) : Prop where
  f_is_signs : L2.Fun K "is_signs" "is_signs" s_is_signs (fa 0) (fd 0)
  m_is_signs : mg "is_signs" = some (.ref (fa 0))
  b_is_signs : Binds K (fd 0) ["thing"] []
  f_need_signs : L2.Fun K "need_signs" "need_signs" s_need_signs (fa 1) (fd 1)
  m_need_signs : mg "need_signs" = some (.ref (fa 1))
  b_need_signs : Binds K (fd 1) ["thing"] []
  f_sum_of : L2.Fun K "sum_of" "sum_of" s_sum_of (fa 2) (fd 2)
  m_sum_of : mg "sum_of" = some (.ref (fa 2))
  b_sum_of : Binds K (fd 2) ["signs"] []
  f__law_cell : L2.Fun K "_law_cell" "_law_cell" s__law_cell (fa 3) (fd 3)
  m__law_cell : mg "_law_cell" = some (.ref (fa 3))
  b__law_cell : Binds K (fd 3) ["_law_script", "_law_k"] []
  f__law_box : L2.Fun K "_law_box" "_law_box" s__law_box (fa 4) (fd 4)
  m__law_box : mg "_law_box" = some (.ref (fa 4))
  b__law_box : Binds K (fd 4) ["_law_cell_here"] []
  f__law_take : L2.Fun K "_law_take" "_law_take" s__law_take (fa 5) (fd 5)
  m__law_take : mg "_law_take" = some (.ref (fa 5))
  b__law_take : Binds K (fd 5) ["_law_box_here", "_law_many"] []
  f__law_signs : L2.Fun K "_law_signs" "_law_signs" s__law_signs (fa 6) (fd 6)
  m__law_signs : mg "_law_signs" = some (.ref (fa 6))
  b__law_signs : Binds K (fd 6) ["_law_box_here"] []
  f__law_sum : L2.Fun K "_law_sum" "_law_sum" s__law_sum (fa 7) (fd 7)
  m__law_sum : mg "_law_sum" = some (.ref (fa 7))
  b__law_sum : Binds K (fd 7) ["_law_signs_here"] []
  f__law_turned : L2.Fun K "_law_turned" "_law_turned" s__law_turned (fa 8) (fd 8)
  m__law_turned : mg "_law_turned" = some (.ref (fa 8))
  b__law_turned : Binds K (fd 8) ["_law_signs_here", "_law_at"] []
  f__law_found : L2.Fun K "_law_found" "_law_found" s__law_found (fa 9) (fd 9)
  m__law_found : mg "_law_found" = some (.ref (fa 9))
  b__law_found : Binds K (fd 9) ["_law_thing"] []
  f__law_case : L2.Fun K "_law_case" "_law_case" s__law_case (fa 10) (fd 10)
  m__law_case : mg "_law_case" = some (.ref (fa 10))
  b__law_case : Binds K (fd 10) ["_law_box_here"] []
  f_law : L2.Fun K "law" "law" s_law (fa 11) (fd 11)
  m_law : mg "law" = some (.ref (fa 11))
  b_law : Binds K (fd 11) ["_law_script"] []
  z_str : mg "str" = none
  z_isinstance : mg "isinstance" = none
  z_int : mg "int" = none
  z_len : mg "len" = none
  z_max : mg "max" = none
  z_range : mg "range" = none
  z_repr : mg "repr" = none
  z_min : mg "min" = none
  c_BY : mg "BY" = some (.int (31) (ct 0))
  c_PRIME : mg "PRIME" = some (.int (65521) (ct 1))
  x_NoSigns : OwnX P w K mg base "NoSigns" (cd 1) ["found"] (spI1 K (cd 1) "found")
  xf_NoSigns_found : PySem.W.findIn K (.ref (cd 1)) "found" = some none
  n_NoSigns : mg "NoSigns" = some (.ref (cd 1))
  h_NoSigns : ∀ C b, hit_NoSigns C = some b → PySem.W.exmOne K (.ref (cd C)) (.ref (cd 1)) = some b
  n_TimesError : mg "TimesError" = some (.ref (cd 0))
  h_TimesError : ∀ C b, hit_TimesError C = some b → PySem.W.exmOne K (.ref (cd C)) (.ref (cd 0)) = some b
  fx_NoSigns_found : ∀ C, hit_NoSigns C = some true → FldX K (cd C) "found"
def b_is_signs_1 : TS1 :=
  (tIfS1 (tBl1 (tOp1 (inC true) (tVar1 1) (tC1 (.str "01")))) (tRet1 (tC1 (.bl false))) tNext1)
def t_is_signs : TS1 :=
  (tSeq1 (tIfS1 (tNot1 (tBl1 (tCB1 inst1 (tCons1 (tVar1 0) (tCons1 (tC1 (.ty "str")) tNil1))))) (tRet1 (tC1 (.bl false))) tNext1)
  (tSeq1 (tFor1 (iSq1 (tVar1 0)) (gName1 1) b_is_signs_1)
  (tRet1 (tC1 (.bl true)))))
def sp_is_signs : Sp1 := ownSp ["thing", "sign"] 1 t_is_signs

def t_need_signs : TS1 :=
  (tIfS1 (tNot1 (tBl1 (tCall1 sp_is_signs [] (tCons1 (tVar1 0) tNil1)))) (tRaise1 1 ["found"] (tCons1 (tVar1 0) tNil1)) tNext1)
def sp_need_signs : Sp1 := ownSp ["thing"] 1 t_need_signs

def b_sum_of_1 : TS1 :=
  (tAsg1 (tOp1 modA (tOp1 addA (tOp1 mulA (tC1 (.int 31)) (tVar1 1)) (tCB1 int1 (tCons1 (tOp1 (eq1 false) (tVar1 2) (tC1 (.str "1"))) tNil1))) (tC1 (.int 65521))) (gName1 1))
def t_sum_of : TS1 :=
  (tSeq1 (tDrop1 (tCall1 sp_need_signs [] (tCons1 (tVar1 0) tNil1)))
  (tSeq1 (tAsg1 (tC1 (.int 1)) (gName1 1))
  (tSeq1 (tFor1 (iSq1 (tVar1 0)) (gName1 2) b_sum_of_1)
  (tRet1 (tVar1 1)))))
def sp_sum_of : Sp1 := ownSp ["signs", "total", "sign"] 1 t_sum_of

def t__law_cell : TS1 :=
  (tSeq1 (tIfS1 (tBl1 (tOp1 ltA (tVar1 1) (tCB1 lenR (tCons1 (tVar1 0) tNil1)))) (tRet1 (tOp1 ix1 (tVar1 0) (tVar1 1))) tNext1)
  (tRet1 (tOp1 addA (tOp1 mulA (tC1 (.int 7919)) (tVar1 1)) (tC1 (.int 41)))))
def sp__law_cell : Sp1 := ownSp ["_law_script", "_law_k"] 2 t__law_cell

def t__law_box : TS1 :=
  (tRet1 (tLst1 (tCons1 (tCB1 max1 (tCons1 (tC1 (.int 0)) (tCons1 (tOp1 subA (tVar1 0) (tOp1 powA (tC1 (.int 10)) (tC1 (.int 18)))) tNil1))) (tCons1 (tOp1 modA (tVar1 0) (tC1 (.int 2147483629))) (tCons1 (tC1 (.int 0)) tNil1)))))
def sp__law_box : Sp1 := ownSp ["_law_cell_here"] 1 t__law_box

def a__law_take_1 : TS1 :=
  (tIfS1 (tBl1 (tOp1 gtA (tOp1 ix1 (tVar1 0) (tC1 (.int 0))) (tC1 (.int 0)))) (tSeq1 (tAsg1 (tOp1 modA (tOp1 ix1 (tVar1 0) (tC1 (.int 0))) (tVar1 1)) (gName1 2))
  (tSeq1 (tAsg1 (tOp1 divA (tOp1 ix1 (tVar1 0) (tC1 (.int 0))) (tVar1 1)) (gSub1 (tVar1 0) (tC1 (.int 0))))
  (tRet1 (tVar1 2)))) tNext1)
def a__law_take_2 : TS1 :=
  (tAsg1 (tOp1 addA (tOp1 ix1 (tVar1 0) (tC1 (.int 2))) (tC1 (.int 1))) (gSub1 (tVar1 0) (tC1 (.int 2))))
def a__law_take_3 : TS1 :=
  (tAsg1 (tOp1 modA (tOp1 powA (tOp1 addA (tOp1 addA (tOp1 ix1 (tVar1 0) (tC1 (.int 1))) (tOp1 mulA (tC1 (.int 7919)) (tOp1 ix1 (tVar1 0) (tC1 (.int 2))))) (tC1 (.int 17))) (tC1 (.int 5))) (tC1 (.int 2147483647))) (gName1 3))
def a__law_take_4 : TS1 :=
  (tAsg1 (tOp1 modA (tOp1 powA (tOp1 addA (tVar1 3) (tOp1 mulA (tC1 (.int 104729)) (tOp1 ix1 (tVar1 0) (tC1 (.int 2))))) (tC1 (.int 3))) (tC1 (.int 2147483587))) (gName1 3))
def a__law_take_5 : TS1 :=
  (tRet1 (tOp1 modA (tOp1 divA (tVar1 3) (tC1 (.int 16))) (tVar1 1)))
def t__law_take : TS1 :=
  (tSeq1 a__law_take_1
  (tSeq1 a__law_take_2
  (tSeq1 a__law_take_3
  (tSeq1 a__law_take_4
  a__law_take_5))))
def sp__law_take : Sp1 := ownSp ["_law_box_here", "_law_many", "_law_digit", "_law_number"] 2 t__law_take

def c__law_signs_1 : TE1 :=
  (tOp1 ix1 (tC1 (.str "01")) (tCall1 sp__law_take [] (tCons1 (tVar1 0) (tCons1 (tC1 (.int 2)) tNil1))))
def t__law_signs : TS1 :=
  (tSeq1 (tAsg1 (tCall1 sp__law_take [] (tCons1 (tVar1 0) (tCons1 (tC1 (.int 4)) tNil1))) (gName1 1))
  (tSeq1 (tAsg1 (tOp1 ix1 (tLst1 (tCons1 (tCall1 sp__law_take [] (tCons1 (tVar1 0) (tCons1 (tC1 (.int 201)) tNil1))) (tCons1 (tCall1 sp__law_take [] (tCons1 (tVar1 0) (tCons1 (tC1 (.int 6)) tNil1))) (tCons1 (tC1 (.int 200)) (tCons1 (tC1 (.int 40)) tNil1))))) (tCall1 sp__law_take [] (tCons1 (tVar1 0) (tCons1 (tC1 (.int 4)) tNil1)))) (gName1 2))
  (tSeq1 (tIfS1 (tBl1 (tOp1 ltA (tVar1 1) (tC1 (.int 2)))) (tRet1 (tOp1 mulA (tOp1 ix1 (tC1 (.str "01")) (tVar1 1)) (tVar1 2))) tNext1)
  (tRet1 (tBM1 "str" join1 (tC1 (.str "")) (tCons1 (tLc1 (iRgA (tCons1 (tVar1 2) tNil1)) (.nm 3) tYes1 c__law_signs_1 [3]) tNil1))))))
def sp__law_signs : Sp1 := ownSp ["_law_box_here", "_law_way", "_law_long", "_law_k"] 1 t__law_signs

def b__law_sum_1 : TS1 :=
  (tSeq1 (tAsg1 (tOp1 addA (tOp1 mulA (tVar1 1) (tC1 (.int 31))) (tCB1 int1 (tCons1 (tOp1 (eq1 false) (tVar1 2) (tC1 (.str "1"))) tNil1))) (gName1 1))
  (tAsg1 (tOp1 subA (tVar1 1) (tOp1 mulA (tOp1 divA (tVar1 1) (tC1 (.int 65521))) (tC1 (.int 65521)))) (gName1 1)))
def t__law_sum : TS1 :=
  (tSeq1 (tAsg1 (tC1 (.int 1)) (gName1 1))
  (tSeq1 (tFor1 (iSq1 (tVar1 0)) (gName1 2) b__law_sum_1)
  (tRet1 (tVar1 1))))
def sp__law_sum : Sp1 := ownSp ["_law_signs_here", "_law_found_here", "_law_sign"] 1 t__law_sum

def c__law_turned_1 : TE1 :=
  (tOp1 ix1 (tC1 (.str "10")) (tCB1 int1 (tCons1 (tVar1 2) tNil1)))
def t__law_turned : TS1 :=
  (tRet1 (tOp1 addA (tOp1 addA (tSl1 (tVar1 0) tNoP1 (tPart1 (tVar1 1))) (tBM1 "str" join1 (tC1 (.str "")) (tCons1 (tLc1 (iSq1 (tSl1 (tVar1 0) (tPart1 (tVar1 1)) (tPart1 (tOp1 addA (tVar1 1) (tC1 (.int 1)))))) (.nm 2) tYes1 c__law_turned_1 [2]) tNil1))) (tSl1 (tVar1 0) (tPart1 (tOp1 addA (tVar1 1) (tC1 (.int 1)))) tNoP1)))
def sp__law_turned : Sp1 := ownSp ["_law_signs_here", "_law_at", "_law_sign"] 2 t__law_turned

def t__law_found : TS1 :=
  (tSeq1 (tAsg1 (tC1 .non) (gName1 1))
  (tSeq1 (tTry1 (tAsg1 (tCall1 sp_sum_of [] (tCons1 (tVar1 0) tNil1)) (gName1 1)) (⟨hit_NoSigns, (some 2), fun a xt => (tAsg1 (tLst1 (tCons1 (tC1 (.str "signs")) (tCons1 (tCB1 repr1 (tCons1 (tExF1 2 a xt "found") tNil1)) tNil1))) (gName1 1))⟩ :: (⟨hit_TimesError, none, fun a xt => (tAsg1 (tLst1 (tCons1 (tC1 (.str "other")) tNil1)) (gName1 1))⟩ :: [])))
  (tRet1 (tVar1 1))))
def sp__law_found : Sp1 := ownSp ["_law_thing", "_law_found_here", "e"] 1 t__law_found

def a__law_case_1 : TS1 :=
  (tAsg1 (tCall1 sp__law_take [] (tCons1 (tVar1 0) (tCons1 (tC1 (.int 8)) tNil1))) (gName1 1))
def a__law_case_2 : TS1 :=
  (tAsg1 (tCall1 sp__law_signs [] (tCons1 (tVar1 0) tNil1)) (gName1 2))
def a__law_case_3 : TS1 :=
  (tAsg1 (tCall1 sp__law_sum [] (tCons1 (tVar1 2) tNil1)) (gName1 3))
def b__law_case_1 : TS1 :=
  (tIfS1 (tBl1 (tOp1 (eq1 true) (tCB1 repr1 (tCons1 (tCall1 sp_sum_of [] (tCons1 (tVar1 2) tNil1)) tNil1)) (tCB1 repr1 (tCons1 (tVar1 3) tNil1)))) (tRet1 (tC1 (.bl false))) tNext1)
def a__law_case_4 : TS1 :=
  (tFor1 (iRgA (tCons1 (tC1 (.int 2)) tNil1)) (gName1 4) b__law_case_1)
def a__law_case_5 : TS1 :=
  (tAsg1 (tCall1 sp__law_take [] (tCons1 (tVar1 0) (tCons1 (tOp1 addA (tCB1 lenR (tCons1 (tVar1 2) tNil1)) (tC1 (.int 1))) tNil1))) (gName1 5))
def a__law_case_6 : TS1 :=
  (tAsg1 (tCall1 sp__law_turned [] (tCons1 (tVar1 2) (tCons1 (tVar1 5) tNil1))) (gName1 6))
def a__law_case_7 : TS1 :=
  (tIfS1 (tOr1 (tBl1 (tOp1 (eq1 true) (tCB1 repr1 (tCons1 (tCall1 sp_sum_of [] (tCons1 (tVar1 6) tNil1)) tNil1)) (tCB1 repr1 (tCons1 (tCall1 sp__law_sum [] (tCons1 (tVar1 6) tNil1)) tNil1)))) (tBl1 (tOp1 (eq1 true) (tOp1 (eq1 false) (tCall1 sp_sum_of [] (tCons1 (tVar1 6) tNil1)) (tVar1 3)) (tOp1 (eq1 false) (tVar1 6) (tVar1 2))))) (tRet1 (tC1 (.bl false))) tNext1)
def a__law_case_8 : TS1 :=
  (tAsg1 (tCall1 sp__law_turned [] (tCons1 (tVar1 2) (tCons1 (tOp1 subA (tCB1 lenR (tCons1 (tVar1 2) tNil1)) (tC1 (.int 1))) tNil1))) (gName1 7))
def a__law_case_9 : TS1 :=
  (tIfS1 (tOr1 (tAnd1 (tBl1 (tOp1 (eq1 true) (tVar1 2) (tC1 (.str "")))) (tBl1 (tOp1 (eq1 false) (tCall1 sp_sum_of [] (tCons1 (tVar1 7) tNil1)) (tVar1 3)))) (tBl1 (tOp1 (eq1 true) (tCB1 repr1 (tCons1 (tCall1 sp_sum_of [] (tCons1 (tOp1 addA (tC1 (.str "0")) (tVar1 2)) tNil1)) tNil1)) (tCB1 repr1 (tCons1 (tCall1 sp__law_sum [] (tCons1 (tOp1 addA (tC1 (.str "0")) (tVar1 2)) tNil1)) tNil1))))) (tRet1 (tC1 (.bl false))) tNext1)
def a__law_case_10 : TS1 :=
  (tAsg1 (tOp1 ix1 (tC1 (.str "2 aoO-I\n")) (tCall1 sp__law_take [] (tCons1 (tVar1 0) (tCons1 (tC1 (.int 8)) tNil1)))) (gName1 8))
def a__law_case_11 : TS1 :=
  (tAsg1 (tOp1 ix1 (tLst1 (tCons1 (tOp1 addA (tOp1 addA (tSl1 (tVar1 2) tNoP1 (tPart1 (tVar1 5))) (tVar1 8)) (tSl1 (tVar1 2) (tPart1 (tVar1 5)) tNoP1)) (tCons1 (tOp1 addA (tVar1 2) (tVar1 8)) (tCons1 (tLst1 (tCons1 (tVar1 2) tNil1)) (tCons1 (tC1 .non) (tCons1 (tC1 (.int 0)) (tCons1 (tC1 (.bl true)) (tCons1 (tTup1 (tCons1 (tVar1 2) tNil1)) (tCons1 (tDic (((tC1 (.str "0")), (tC1 (.int 1))) :: [])) tNil1))))))))) (tVar1 1)) (gName1 9))
def a__law_case_12 : TS1 :=
  (tIfS1 (tBl1 (tOp1 (eq1 true) (tCall1 sp__law_found [] (tCons1 (tVar1 9) tNil1)) (tLst1 (tCons1 (tC1 (.str "signs")) (tCons1 (tCB1 repr1 (tCons1 (tVar1 9) tNil1)) tNil1))))) (tRet1 (tC1 (.bl false))) tNext1)
def a__law_case_13 : TS1 :=
  (tAsg1 (tLst1 (tCons1 (tVar1 2) tNil1)) (gName1 10))
def a__law_case_14 : TS1 :=
  (tAsg1 (tLst1 tNil1) (gName1 11))
def a__law_case_15 : TS1 :=
  (tTry1 (tDrop1 (tCall1 sp_sum_of [] (tCons1 (tVar1 10) tNil1))) (⟨hit_NoSigns, (some 12), fun a xt => (tAsg1 (tLst1 (tCons1 (tExF1 12 a xt "found") tNil1)) (gName1 11))⟩ :: []))
def a__law_case_16 : TS1 :=
  (tDrop1 (tBM1 "list" app1 (tVar1 10) (tCons1 (tC1 (.str "more")) tNil1)))
def c__law_case_2 : TE1 :=
  (tCB1 repr1 (tCons1 (tVar1 13) tNil1))
def a__law_case_17 : TS1 :=
  (tRet1 (tOp1 (eq1 false) (tLc1 (iSq1 (tVar1 11)) (.nm 13) tYes1 c__law_case_2 [13]) (tLst1 (tCons1 (tCB1 repr1 (tCons1 (tVar1 10) tNil1)) tNil1))))
def t__law_case : TS1 :=
  (tSeq1 a__law_case_1
  (tSeq1 a__law_case_2
  (tSeq1 a__law_case_3
  (tSeq1 a__law_case_4
  (tSeq1 a__law_case_5
  (tSeq1 a__law_case_6
  (tSeq1 a__law_case_7
  (tSeq1 a__law_case_8
  (tSeq1 a__law_case_9
  (tSeq1 a__law_case_10
  (tSeq1 a__law_case_11
  (tSeq1 a__law_case_12
  (tSeq1 a__law_case_13
  (tSeq1 a__law_case_14
  (tSeq1 a__law_case_15
  (tSeq1 a__law_case_16
  a__law_case_17))))))))))))))))
def sp__law_case : Sp1 := ownSp ["_law_box_here", "_law_way", "_law_signs_here", "_law_due", "_law_turn", "_law_at", "_law_other", "_law_last", "_law_sign", "_law_thing", "_law_some", "_law_carried", "e", "_law_one"] 1 t__law_case

def b_law_1 : TS1 :=
  (tIfS1 (tNot1 (tBl1 (tCall1 sp__law_case [] (tCons1 (tCall1 sp__law_box [] (tCons1 (tCall1 sp__law_cell [] (tCons1 (tVar1 0) (tCons1 (tVar1 1) tNil1))) tNil1)) tNil1)))) (tRet1 (tC1 (.bl false))) tNext1)
def t_law : TS1 :=
  (tSeq1 (tFor1 (iRgA (tCons1 (tCB1 max1 (tCons1 (tC1 (.int 2)) (tCons1 (tCB1 min1 (tCons1 (tC1 (.int 10)) (tCons1 (tCB1 lenR (tCons1 (tVar1 0) tNil1)) tNil1))) tNil1))) tNil1)) (gName1 1) b_law_1)
  (tRet1 (tOp1 (eq1 false) (tCall1 sp_sum_of [] (tCons1 (tC1 (.str "")) tNil1)) (tC1 (.int 1)))))
def sp_law : Sp1 := ownSp ["_law_script", "_law_k"] 1 t_law

section
variable {P : Program} {w : World} {K : PySem.W.Frag} {mg : Str → Option Value} {base : Heap} {cd fa : Nat → Addr} {fd : Nat → FuncData} {ct : Nat → Tok}
theorem sc_is_signs : FnScope ["thing", "sign"] ["thing"] (defScope s_is_signs) := ⟨rfl, rfl, rfl, by decide +kernel, rfl, by decide +kernel, by decide +kernel⟩
theorem ok_is_signs (B : Fct P w K mg base cd fa fd ct) (F : Addr → Prop) : FnG P w K mg base 3 (fa 0) (fd 0) ["thing"] (liftSp ⟨K, cd, F⟩ sp_is_signs) := by
  refine fnG_mk B.f_is_signs sc_is_signs rfl fun cdv A outer s H E hr hA tk hp => ?_
  have hu := hu64 hr
  exact (ssc (sif (ptn (ptv1 (pcb1 (cr_inst rfl) B.z_isinstance bb_isinstance (pac (pv1 0) (pac (pbt1 B.z_str bb_str) pan0))))) (ss1 (sret pb1)) ss0)
    (ssc (sfor hp rfl (pil1 rfl (pv1 0)) (pgn1 (i := 1) sc_is_signs.nd) (ss1 (sif (ptm1 op1_notInC (pv1 1) pq1) (ss1 (sret pb1)) ss0)))
    (ss1 (sret pb1))))

theorem sc_need_signs : FnScope ["thing"] ["thing"] (defScope s_need_signs) := ⟨rfl, rfl, rfl, by decide +kernel, rfl, by decide +kernel, by decide +kernel⟩
theorem ok_need_signs (B : Fct P w K mg base cd fa fd ct) (F : Addr → Prop) : FnG P w K mg base 4 (fa 1) (fd 1) ["thing"] (liftSp ⟨K, cd, F⟩ sp_need_signs) := by
  refine fnG_mk B.f_need_signs sc_need_signs rfl fun cdv A outer s H E hr hA tk hp => ?_
  have hu := hu64 hr
  exact (ss1 (sif (ptn (ptv1 (pcall1 (sp := sp_is_signs) (dts := []) (dvs := []) (ds := []) (ok_is_signs B _) (hr.mono (by decide)) hA B.m_is_signs B.f_is_signs.kp B.b_is_signs .nil (fun _ _ => RepL.nil) tk (pac (pv1 0) pan0)))) (ss1 (sraise1 (C := 1) (f := "found") B.x_NoSigns B.xf_NoSigns_found (hr.mono (by decide)) rfl tk (pac (pv1 0) pan0))) ss0))

theorem sc_sum_of : FnScope ["signs", "total", "sign"] ["signs"] (defScope s_sum_of) := ⟨rfl, rfl, rfl, by decide +kernel, rfl, by decide +kernel, by decide +kernel⟩
theorem ok_sum_of (B : Fct P w K mg base cd fa fd ct) (F : Addr → Prop) : FnG P w K mg base 5 (fa 2) (fd 2) ["signs"] (liftSp ⟨K, cd, F⟩ sp_sum_of) := by
  refine fnG_mk B.f_sum_of sc_sum_of rfl fun cdv A outer s H E hr hA tk hp => ?_
  have hu := hu64 hr
  exact (ssc (sexpr (pcall1 (sp := sp_need_signs) (dts := []) (dvs := []) (ds := []) (ok_need_signs B _) (hr.mono (by decide)) hA B.m_need_signs B.f_need_signs.kp B.b_need_signs .nil (fun _ _ => RepL.nil) tk (pac (pv1 0) pan0)))
    (ssc (sset (i := 1) sc_sum_of.nd pi1)
    (ssc (sfor hp rfl (pil1 rfl (pv1 0)) (pgn1 (i := 2) sc_sum_of.nd) (ss1 (sset (i := 1) sc_sum_of.nd (po1 op1_mod (po1 op1_addA (po1 op1_mulA (pg1 (t := .int (31)) (v := .int (31)) B.c_BY ⟨_, rfl⟩ (fun _ _ => rep_int_)) (pv1 1)) (pct1 cr_int B.z_int bb_int (pac (pm1 (op1_eq hu rfl) (pv1 2) pq1) pan0))) (pg1 (t := .int (65521)) (v := .int (65521)) B.c_PRIME ⟨_, rfl⟩ (fun _ _ => rep_int_))))))
    (ss1 (sret (pv1 1))))))

theorem sc__law_cell : FnScope ["_law_script", "_law_k"] ["_law_script", "_law_k"] (defScope s__law_cell) := ⟨rfl, rfl, rfl, by decide +kernel, rfl, by decide +kernel, by decide +kernel⟩
theorem ok__law_cell (B : Fct P w K mg base cd fa fd ct) (F : Addr → Prop) : FnG P w K mg base 3 (fa 3) (fd 3) ["_law_script", "_law_k"] (liftSp ⟨K, cd, F⟩ sp__law_cell) := by
  refine fnG_mk B.f__law_cell sc__law_cell rfl fun cdv A outer s H E hr hA tk hp => ?_
  have hu := hu64 hr
  exact (ssc (sif (ptm1 op1_lt (pv1 1) (pcb1 (cr_len rfl) B.z_len bb_len (pac (pv1 0) pan0))) (ss1 (sret (pix1 rfl (pv1 0) (pv1 1)))) ss0)
    (ss1 (sret (po1 op1_addA (po1 op1_mulA pi1 (pv1 1)) pi1))))

theorem sc__law_box : FnScope ["_law_cell_here"] ["_law_cell_here"] (defScope s__law_box) := ⟨rfl, rfl, rfl, by decide +kernel, rfl, by decide +kernel, by decide +kernel⟩
theorem ok__law_box (B : Fct P w K mg base cd fa fd ct) (F : Addr → Prop) : FnG P w K mg base 3 (fa 4) (fd 4) ["_law_cell_here"] (liftSp ⟨K, cd, F⟩ sp__law_box) := by
  refine fnG_mk B.f__law_box sc__law_box rfl fun cdv A outer s H E hr hA tk hp => ?_
  have hu := hu64 hr
  exact (ss1 (sret (plst1 (pac (pcb1 (cr_max2 rfl) B.z_max bb_max (pac pi1 (pac (po1 op1_sub (pv1 0) (po1 op1_pow pi1 pi1)) pan0))) (pac (po1 op1_mod (pv1 0) pi1) (pac pi1 pan0))))))

theorem sc__law_take : FnScope ["_law_box_here", "_law_many", "_law_digit", "_law_number"] ["_law_box_here", "_law_many"] (defScope s__law_take) := ⟨rfl, rfl, rfl, by decide +kernel, rfl, by decide +kernel, by decide +kernel⟩
theorem ok__law_take (B : Fct P w K mg base cd fa fd ct) (F : Addr → Prop) : FnG P w K mg base 3 (fa 5) (fd 5) ["_law_box_here", "_law_many"] (liftSp ⟨K, cd, F⟩ sp__law_take) := by
  refine fnG_mk B.f__law_take sc__law_take rfl fun cdv A outer s H E hr hA tk hp => ?_
  have hu := hu64 hr
  exact (ssc (sif (ptm1 op1_gt (pix1 rfl (pv1 0) pi1) pi1) (ssc (sset (i := 2) sc__law_take.nd (po1 op1_mod (pix1 rfl (pv1 0) pi1) (pv1 1)))
    (ssc (sasg (po1 op1_fdivW (pix1 rfl (pv1 0) pi1) (pv1 1)) (pgsub1 (pv1 0) pi1))
    (ss1 (sret (pv1 2))))) ss0)
    (ssc (sasg (po1 op1_addA (pix1 rfl (pv1 0) pi1) pi1) (pgsub1 (pv1 0) pi1))
    (ssc (sset (i := 3) sc__law_take.nd (po1 op1_mod (po1 op1_pow (po1 op1_addA (po1 op1_addA (pix1 rfl (pv1 0) pi1) (po1 op1_mulA pi1 (pix1 rfl (pv1 0) pi1))) pi1) pi1) pi1))
    (ssc (sset (i := 3) sc__law_take.nd (po1 op1_mod (po1 op1_pow (po1 op1_addA (pv1 3) (po1 op1_mulA pi1 (pix1 rfl (pv1 0) pi1))) pi1) pi1))
    (ss1 (sret (po1 op1_mod (po1 op1_fdivW (pv1 3) pi1) (pv1 1))))))))

theorem sc__law_signs : FnScope ["_law_box_here", "_law_way", "_law_long", "_law_k"] ["_law_box_here"] (defScope s__law_signs) := ⟨rfl, rfl, rfl, by decide +kernel, rfl, by decide +kernel, by decide +kernel⟩
theorem ok__law_signs (B : Fct P w K mg base cd fa fd ct) (F : Addr → Prop) : FnG P w K mg base 4 (fa 6) (fd 6) ["_law_box_here"] (liftSp ⟨K, cd, F⟩ sp__law_signs) := by
  refine fnG_mk B.f__law_signs sc__law_signs rfl fun cdv A outer s H E hr hA tk hp => ?_
  have hu := hu64 hr
  exact (ssc (sset (i := 1) sc__law_signs.nd (pcall1 (sp := sp__law_take) (dts := []) (dvs := []) (ds := []) (ok__law_take B _) (hr.mono (by decide)) hA B.m__law_take B.f__law_take.kp B.b__law_take .nil (fun _ _ => RepL.nil) tk (pac (pv1 0) (pac pi1 pan0))))
    (ssc (sset (i := 2) sc__law_signs.nd (pix1 rfl (plst1 (pac (pcall1 (sp := sp__law_take) (dts := []) (dvs := []) (ds := []) (ok__law_take B _) (hr.mono (by decide)) hA B.m__law_take B.f__law_take.kp B.b__law_take .nil (fun _ _ => RepL.nil) tk (pac (pv1 0) (pac pi1 pan0))) (pac (pcall1 (sp := sp__law_take) (dts := []) (dvs := []) (ds := []) (ok__law_take B _) (hr.mono (by decide)) hA B.m__law_take B.f__law_take.kp B.b__law_take .nil (fun _ _ => RepL.nil) tk (pac (pv1 0) (pac pi1 pan0))) (pac pi1 (pac pi1 pan0))))) (pcall1 (sp := sp__law_take) (dts := []) (dvs := []) (ds := []) (ok__law_take B _) (hr.mono (by decide)) hA B.m__law_take B.f__law_take.kp B.b__law_take .nil (fun _ _ => RepL.nil) tk (pac (pv1 0) (pac pi1 pan0)))))
    (ssc (sif (ptm1 op1_lt (pv1 1) pi1) (ss1 (sret (po1 op1_mulA (pix1 rfl pq1 (pv1 1)) (pv1 2)))) ss0)
    (ss1 (sret (pbm1 PySem.F.plainAttrs_str PySem.F.slot_str_join PySem.F.type_str_join (mt1_join rfl) rfl pq1 (pac (plc1 (nt := (.nm 3)) (own := [("_law_k", 3)]) rfl sc__law_signs.nd rfl (pir1 B.z_range (pac (pv1 2) pan0)) (blkOk_by (N := ["_law_box_here", "_law_way", "_law_long", "_law_k"]) (sc := defScope s__law_signs) (by decide +kernel)) (by decide) (fun _ _ _ _ _ => pg_name (i := 3) sc__law_signs.nd rfl (by first | exact Or.inl rfl | exact Or.inr rfl)) (fun _ _ _ _ _ _ => pts0) (fun _ _ _ _ _ _ => (pix1 rfl pq1 (pcall1 (sp := sp__law_take) (dts := []) (dvs := []) (ds := []) (ok__law_take B _) (hr.mono (by decide)) hA B.m__law_take B.f__law_take.kp B.b__law_take .nil (fun _ _ => RepL.nil) takes0 (pac (pv1 0) (pac pi1 pan0)))))) pan0)))))))

theorem sc__law_sum : FnScope ["_law_signs_here", "_law_found_here", "_law_sign"] ["_law_signs_here"] (defScope s__law_sum) := ⟨rfl, rfl, rfl, by decide +kernel, rfl, by decide +kernel, by decide +kernel⟩
theorem ok__law_sum (B : Fct P w K mg base cd fa fd ct) (F : Addr → Prop) : FnG P w K mg base 3 (fa 7) (fd 7) ["_law_signs_here"] (liftSp ⟨K, cd, F⟩ sp__law_sum) := by
  refine fnG_mk B.f__law_sum sc__law_sum rfl fun cdv A outer s H E hr hA tk hp => ?_
  have hu := hu64 hr
  exact (ssc (sset (i := 1) sc__law_sum.nd pi1)
    (ssc (sfor hp rfl (pil1 rfl (pv1 0)) (pgn1 (i := 2) sc__law_sum.nd) (ssc (sset (i := 1) sc__law_sum.nd (po1 op1_addA (po1 op1_mulA (pv1 1) pi1) (pct1 cr_int B.z_int bb_int (pac (pm1 (op1_eq hu rfl) (pv1 2) pq1) pan0))))
    (ss1 (sset (i := 1) sc__law_sum.nd (po1 op1_sub (pv1 1) (po1 op1_mulA (po1 op1_fdivW (pv1 1) pi1) pi1))))))
    (ss1 (sret (pv1 1)))))

theorem sc__law_turned : FnScope ["_law_signs_here", "_law_at", "_law_sign"] ["_law_signs_here", "_law_at"] (defScope s__law_turned) := ⟨rfl, rfl, rfl, by decide +kernel, rfl, by decide +kernel, by decide +kernel⟩
theorem ok__law_turned (B : Fct P w K mg base cd fa fd ct) (F : Addr → Prop) : FnG P w K mg base 3 (fa 8) (fd 8) ["_law_signs_here", "_law_at"] (liftSp ⟨K, cd, F⟩ sp__law_turned) := by
  refine fnG_mk B.f__law_turned sc__law_turned rfl fun cdv A outer s H E hr hA tk hp => ?_
  have hu := hu64 hr
  exact (ss1 (sret (po1 op1_addA (po1 op1_addA (psl1 rfl (pv1 0) po0 (pos1 (pv1 1))) (pbm1 PySem.F.plainAttrs_str PySem.F.slot_str_join PySem.F.type_str_join (mt1_join rfl) rfl pq1 (pac (plc1 (nt := (.nm 2)) (own := [("_law_sign", 2)]) rfl sc__law_turned.nd rfl (pil1 rfl (psl1 rfl (pv1 0) (pos1 (pv1 1)) (pos1 (po1 op1_addA (pv1 1) pi1)))) (blkOk_by (N := ["_law_signs_here", "_law_at", "_law_sign"]) (sc := defScope s__law_turned) (by decide +kernel)) (by decide) (fun _ _ _ _ _ => pg_name (i := 2) sc__law_turned.nd rfl (by first | exact Or.inl rfl | exact Or.inr rfl)) (fun _ _ _ _ _ _ => pts0) (fun _ _ _ _ _ _ => (pix1 rfl pq1 (pct1 cr_int B.z_int bb_int (pac (pv1 2) pan0))))) pan0))) (psl1 rfl (pv1 0) (pos1 (po1 op1_addA (pv1 1) pi1)) po0))))

theorem sc__law_found : FnScope ["_law_thing", "_law_found_here", "e"] ["_law_thing"] (defScope s__law_found) := ⟨rfl, rfl, rfl, by decide +kernel, rfl, by decide +kernel, by decide +kernel⟩
theorem ok__law_found (B : Fct P w K mg base cd fa fd ct) (F : Addr → Prop) : FnG P w K mg base 6 (fa 9) (fd 9) ["_law_thing"] (liftSp ⟨K, cd, F⟩ sp__law_found) := by
  refine fnG_mk B.f__law_found sc__law_found rfl fun cdv A outer s H E hr hA tk hp => ?_
  have hu := hu64 hr
  exact (ssc (sset (i := 1) sc__law_found.nd pn1)
    (ssc (stry1 rfl rfl sc__law_found.nd tk (fun V pn xe tk hp => (ss1 (sset (i := 1) sc__law_found.nd (pcall1 (sp := sp_sum_of) (dts := []) (dvs := []) (ds := []) (ok_sum_of B _) (hr.mono (by decide)) hA B.m_sum_of B.f_sum_of.kp B.b_sum_of .nil (fun _ _ => RepL.nil) tk (pac (pv1 0) pan0))))) (HdT.as_ (hit := hit_NoSigns) (i := 2) ⟨rfl, by decide, .inl B.n_NoSigns⟩ B.h_NoSigns rfl rfl (fun a oe C ns us dd pn hh hz hd => (ss1 (sset (i := 1) sc__law_found.nd (plst1 (pac pq1 (pac (pcb1 (cr_repr ⟨rfl, hA.m⟩ ⟨hA.g, hA.m⟩ hu) B.z_repr bb_repr (pac (pexf1 (i := 2) (B.fx_NoSigns_found _ hh) hz hd) pan0)) pan0)))))) (HdT.bare (hit := hit_TimesError) ⟨rfl, by decide, .inl B.n_TimesError⟩ B.h_TimesError (fun a oe C ns us dd pn hh hz hd => (ss1 (sset (i := 1) sc__law_found.nd (plst1 (pac pq1 pan0))))) HdT.nil)))
    (ss1 (sret (pv1 1)))))

theorem sc__law_case : FnScope ["_law_box_here", "_law_way", "_law_signs_here", "_law_due", "_law_turn", "_law_at", "_law_other", "_law_last", "_law_sign", "_law_thing", "_law_some", "_law_carried", "e", "_law_one"] ["_law_box_here"] (defScope s__law_case) := ⟨rfl, rfl, rfl, by decide +kernel, rfl, by decide +kernel, by decide +kernel⟩
theorem ok__law_case (B : Fct P w K mg base cd fa fd ct) (F : Addr → Prop) : FnG P w K mg base 7 (fa 10) (fd 10) ["_law_box_here"] (liftSp ⟨K, cd, F⟩ sp__law_case) := by
  refine fnG_mk B.f__law_case sc__law_case rfl fun cdv A outer s H E hr hA tk hp => ?_
  have hu := hu64 hr
  exact (ssc (sset (i := 1) sc__law_case.nd (pcall1 (sp := sp__law_take) (dts := []) (dvs := []) (ds := []) (ok__law_take B _) (hr.mono (by decide)) hA B.m__law_take B.f__law_take.kp B.b__law_take .nil (fun _ _ => RepL.nil) tk (pac (pv1 0) (pac pi1 pan0))))
    (ssc (sset (i := 2) sc__law_case.nd (pcall1 (sp := sp__law_signs) (dts := []) (dvs := []) (ds := []) (ok__law_signs B _) (hr.mono (by decide)) hA B.m__law_signs B.f__law_signs.kp B.b__law_signs .nil (fun _ _ => RepL.nil) tk (pac (pv1 0) pan0)))
    (ssc (sset (i := 3) sc__law_case.nd (pcall1 (sp := sp__law_sum) (dts := []) (dvs := []) (ds := []) (ok__law_sum B _) (hr.mono (by decide)) hA B.m__law_sum B.f__law_sum.kp B.b__law_sum .nil (fun _ _ => RepL.nil) tk (pac (pv1 2) pan0)))
    (ssc (sfor hp rfl (pir1 B.z_range (pac pi1 pan0)) (pgn1 (i := 4) sc__law_case.nd) (ss1 (sif (ptm1 (op1_ne hu rfl) (pcb1 (cr_repr ⟨rfl, hA.m⟩ hA hu) B.z_repr bb_repr (pac (pcall1 (sp := sp_sum_of) (dts := []) (dvs := []) (ds := []) (ok_sum_of B _) (hr.mono (by decide)) hA B.m_sum_of B.f_sum_of.kp B.b_sum_of .nil (fun _ _ => RepL.nil) tk (pac (pv1 2) pan0)) pan0)) (pcb1 (cr_repr ⟨rfl, hA.m⟩ hA hu) B.z_repr bb_repr (pac (pv1 3) pan0))) (ss1 (sret pb1)) ss0)))
    (ssc (sset (i := 5) sc__law_case.nd (pcall1 (sp := sp__law_take) (dts := []) (dvs := []) (ds := []) (ok__law_take B _) (hr.mono (by decide)) hA B.m__law_take B.f__law_take.kp B.b__law_take .nil (fun _ _ => RepL.nil) tk (pac (pv1 0) (pac (po1 op1_addA (pcb1 (cr_len rfl) B.z_len bb_len (pac (pv1 2) pan0)) pi1) pan0))))
    (ssc (sset (i := 6) sc__law_case.nd (pcall1 (sp := sp__law_turned) (dts := []) (dvs := []) (ds := []) (ok__law_turned B _) (hr.mono (by decide)) hA B.m__law_turned B.f__law_turned.kp B.b__law_turned .nil (fun _ _ => RepL.nil) tk (pac (pv1 2) (pac (pv1 5) pan0))))
    (ssc (sif (ptw (pwo (ptm1 (op1_ne hu rfl) (pcb1 (cr_repr ⟨rfl, hA.m⟩ hA hu) B.z_repr bb_repr (pac (pcall1 (sp := sp_sum_of) (dts := []) (dvs := []) (ds := []) (ok_sum_of B _) (hr.mono (by decide)) hA B.m_sum_of B.f_sum_of.kp B.b_sum_of .nil (fun _ _ => RepL.nil) tk (pac (pv1 6) pan0)) pan0)) (pcb1 (cr_repr ⟨rfl, hA.m⟩ hA hu) B.z_repr bb_repr (pac (pcall1 (sp := sp__law_sum) (dts := []) (dvs := []) (ds := []) (ok__law_sum B _) (hr.mono (by decide)) hA B.m__law_sum B.f__law_sum.kp B.b__law_sum .nil (fun _ _ => RepL.nil) tk (pac (pv1 6) pan0)) pan0))) (pwo1 (ptm1 (op1_ne hu rfl) (pm1 (op1_eq hu rfl) (pcall1 (sp := sp_sum_of) (dts := []) (dvs := []) (ds := []) (ok_sum_of B _) (hr.mono (by decide)) hA B.m_sum_of B.f_sum_of.kp B.b_sum_of .nil (fun _ _ => RepL.nil) tk (pac (pv1 6) pan0)) (pv1 3)) (pm1 (op1_eq hu rfl) (pv1 6) (pv1 2)))))) (ss1 (sret pb1)) ss0)
    (ssc (sset (i := 7) sc__law_case.nd (pcall1 (sp := sp__law_turned) (dts := []) (dvs := []) (ds := []) (ok__law_turned B _) (hr.mono (by decide)) hA B.m__law_turned B.f__law_turned.kp B.b__law_turned .nil (fun _ _ => RepL.nil) tk (pac (pv1 2) (pac (po1 op1_sub (pcb1 (cr_len rfl) B.z_len bb_len (pac (pv1 2) pan0)) pi1) pan0))))
    (ssc (sif (ptw (pwo (ptw (pwa (ptm1 (op1_ne hu rfl) (pv1 2) pq1) (pwa1 (ptm1 (op1_eq hu rfl) (pcall1 (sp := sp_sum_of) (dts := []) (dvs := []) (ds := []) (ok_sum_of B _) (hr.mono (by decide)) hA B.m_sum_of B.f_sum_of.kp B.b_sum_of .nil (fun _ _ => RepL.nil) tk (pac (pv1 7) pan0)) (pv1 3))))) (pwo1 (ptm1 (op1_ne hu rfl) (pcb1 (cr_repr ⟨rfl, hA.m⟩ hA hu) B.z_repr bb_repr (pac (pcall1 (sp := sp_sum_of) (dts := []) (dvs := []) (ds := []) (ok_sum_of B _) (hr.mono (by decide)) hA B.m_sum_of B.f_sum_of.kp B.b_sum_of .nil (fun _ _ => RepL.nil) tk (pac (po1 op1_addA pq1 (pv1 2)) pan0)) pan0)) (pcb1 (cr_repr ⟨rfl, hA.m⟩ hA hu) B.z_repr bb_repr (pac (pcall1 (sp := sp__law_sum) (dts := []) (dvs := []) (ds := []) (ok__law_sum B _) (hr.mono (by decide)) hA B.m__law_sum B.f__law_sum.kp B.b__law_sum .nil (fun _ _ => RepL.nil) tk (pac (po1 op1_addA pq1 (pv1 2)) pan0)) pan0)))))) (ss1 (sret pb1)) ss0)
    (ssc (sset (i := 8) sc__law_case.nd (pix1 rfl pq1 (pcall1 (sp := sp__law_take) (dts := []) (dvs := []) (ds := []) (ok__law_take B _) (hr.mono (by decide)) hA B.m__law_take B.f__law_take.kp B.b__law_take .nil (fun _ _ => RepL.nil) tk (pac (pv1 0) (pac pi1 pan0)))))
    (ssc (sset (i := 9) sc__law_case.nd (pix1 rfl (plst1 (pac (po1 op1_addA (po1 op1_addA (psl1 rfl (pv1 2) po0 (pos1 (pv1 5))) (pv1 8)) (psl1 rfl (pv1 2) (pos1 (pv1 5)) po0)) (pac (po1 op1_addA (pv1 2) (pv1 8)) (pac (plst1 (pac (pv1 2) pan0)) (pac pn1 (pac pi1 (pac pb1 (pac (ptup1 (pac (pv1 2) pan0)) (pac (pdic (PP1.cons (fun _ => pq1) (fun _ => pi1) PP1.nil)) pan0))))))))) (pv1 1)))
    (ssc (sif (ptm1 (op1_ne hu rfl) (pcall1 (sp := sp__law_found) (dts := []) (dvs := []) (ds := []) (ok__law_found B _) (hr.mono (by decide)) hA B.m__law_found B.f__law_found.kp B.b__law_found .nil (fun _ _ => RepL.nil) tk (pac (pv1 9) pan0)) (plst1 (pac pq1 (pac (pcb1 (cr_repr ⟨rfl, hA.m⟩ hA hu) B.z_repr bb_repr (pac (pv1 9) pan0)) pan0)))) (ss1 (sret pb1)) ss0)
    (ssc (sset (i := 10) sc__law_case.nd (plst1 (pac (pv1 2) pan0)))
    (ssc (sset (i := 11) sc__law_case.nd (plst1 pan0))
    (ssc (stry1 rfl rfl sc__law_case.nd tk (fun V pn xe tk hp => (ss1 (sexpr (pcall1 (sp := sp_sum_of) (dts := []) (dvs := []) (ds := []) (ok_sum_of B _) (hr.mono (by decide)) hA B.m_sum_of B.f_sum_of.kp B.b_sum_of .nil (fun _ _ => RepL.nil) tk (pac (pv1 10) pan0))))) (HdT.as_ (hit := hit_NoSigns) (i := 12) ⟨rfl, by decide, .inl B.n_NoSigns⟩ B.h_NoSigns rfl rfl (fun a oe C ns us dd pn hh hz hd => (ss1 (sset (i := 11) sc__law_case.nd (plst1 (pac (pexf1 (i := 12) (B.fx_NoSigns_found _ hh) hz hd) pan0))))) HdT.nil))
    (ssc (sexpr (pbm1 PySem.F.plainAttrs_list PySem.F.slot_list_append PySem.F.type_list_append mt1_append rfl (pv1 10) (pac pq1 pan0)))
    (ss1 (sret (pm1 (op1_eq hu rfl) (plc1 (nt := (.nm 13)) (own := [("_law_one", 13)]) rfl sc__law_case.nd rfl (pil1 rfl (pv1 11)) (blkOk_by (N := ["_law_box_here", "_law_way", "_law_signs_here", "_law_due", "_law_turn", "_law_at", "_law_other", "_law_last", "_law_sign", "_law_thing", "_law_some", "_law_carried", "e", "_law_one"]) (sc := defScope s__law_case) (by decide +kernel)) (by decide) (fun _ _ _ _ _ => pg_name (i := 13) sc__law_case.nd rfl (by first | exact Or.inl rfl | exact Or.inr rfl)) (fun _ _ _ _ _ _ => pts0) (fun _ _ _ _ _ _ => (pcb1 (cr_repr ⟨rfl, hA.m⟩ hA hu) B.z_repr bb_repr (pac (pv1 13) pan0)))) (plst1 (pac (pcb1 (cr_repr ⟨rfl, hA.m⟩ hA hu) B.z_repr bb_repr (pac (pv1 10) pan0)) pan0)))))))))))))))))))))

theorem sc_law : FnScope ["_law_script", "_law_k"] ["_law_script"] (defScope s_law) := ⟨rfl, rfl, rfl, by decide +kernel, rfl, by decide +kernel, by decide +kernel⟩
theorem ok_law (B : Fct P w K mg base cd fa fd ct) (F : Addr → Prop) : FnG P w K mg base 8 (fa 11) (fd 11) ["_law_script"] (liftSp ⟨K, cd, F⟩ sp_law) := by
  refine fnG_mk B.f_law sc_law rfl fun cdv A outer s H E hr hA tk hp => ?_
  have hu := hu64 hr
  exact (ssc (sfor hp rfl (pir1 B.z_range (pac (pcb1 (cr_max2 rfl) B.z_max bb_max (pac pi1 (pac (pcb1 (cr_min2 rfl) B.z_min bb_min (pac pi1 (pac (pcb1 (cr_len rfl) B.z_len bb_len (pac (pv1 0) pan0)) pan0))) pan0))) pan0)) (pgn1 (i := 1) sc_law.nd) (ss1 (sif (ptn (ptv1 (pcall1 (sp := sp__law_case) (dts := []) (dvs := []) (ds := []) (ok__law_case B _) (hr.mono (by decide)) hA B.m__law_case B.f__law_case.kp B.b__law_case .nil (fun _ _ => RepL.nil) tk (pac (pcall1 (sp := sp__law_box) (dts := []) (dvs := []) (ds := []) (ok__law_box B _) (hr.mono (by decide)) hA B.m__law_box B.f__law_box.kp B.b__law_box .nil (fun _ _ => RepL.nil) tk (pac (pcall1 (sp := sp__law_cell) (dts := []) (dvs := []) (ds := []) (ok__law_cell B _) (hr.mono (by decide)) hA B.m__law_cell B.f__law_cell.kp B.b__law_cell .nil (fun _ _ => RepL.nil) tk (pac (pv1 0) (pac (pv1 1) pan0))) pan0)) pan0)))) (ss1 (sret pb1)) ss0)))
    (ss1 (sret (pm1 (op1_eq hu rfl) (pcall1 (sp := sp_sum_of) (dts := []) (dvs := []) (ds := []) (ok_sum_of B _) (hr.mono (by decide)) hA B.m_sum_of B.f_sum_of.kp B.b_sum_of .nil (fun _ _ => RepL.nil) tk (pac pq1 pan0)) pi1))))

end
set_option maxHeartbeats 4000000 in
theorem all_mk {P : Program} {w : World} {K : PySem.W.Frag} {h : Heap} {mg : Str → Option Value} {fa0 : Addr} (X : K.In h) (G : h.Ns mainGlobals mg) (hfa : mg "law" = some (.ref fa0))
    {f0 : Addr} {oc0 kV0 dc0 pm0 cv0 ct0 : Value} {od0 an0 : Option Addr} {sl0 : Array (Option Value)} {f1 : Addr} {oc1 kV1 dc1 pm1 cv1 ct1 : Value} {od1 an1 : Option Addr} {sl1 : Array (Option Value)} {f2 : Addr} {oc2 kV2 dc2 pm2 cv2 ct2 : Value} {od2 an2 : Option Addr} {sl2 : Array (Option Value)} {f3 : Addr} {oc3 kV3 dc3 pm3 cv3 ct3 : Value} {od3 an3 : Option Addr} {sl3 : Array (Option Value)} {f4 : Addr} {oc4 kV4 dc4 pm4 cv4 ct4 : Value} {od4 an4 : Option Addr} {sl4 : Array (Option Value)} {f5 : Addr} {oc5 kV5 dc5 pm5 cv5 ct5 : Value} {od5 an5 : Option Addr} {sl5 : Array (Option Value)} {f6 : Addr} {oc6 kV6 dc6 pm6 cv6 ct6 : Value} {od6 an6 : Option Addr} {sl6 : Array (Option Value)} {f7 : Addr} {oc7 kV7 dc7 pm7 cv7 ct7 : Value} {od7 an7 : Option Addr} {sl7 : Array (Option Value)} {f8 : Addr} {oc8 kV8 dc8 pm8 cv8 ct8 : Value} {od8 an8 : Option Addr} {sl8 : Array (Option Value)} {f9 : Addr} {oc9 kV9 dc9 pm9 cv9 ct9 : Value} {od9 an9 : Option Addr} {sl9 : Array (Option Value)} {f10 : Addr} {oc10 kV10 dc10 pm10 cv10 ct10 : Value} {od10 an10 : Option Addr} {sl10 : Array (Option Value)} {f11 : Addr} {oc11 kV11 dc11 pm11 cv11 ct11 : Value} {od11 an11 : Option Addr} {sl11 : Array (Option Value)} {tk0 : Tok} {tk1 : Tok} {C0 : Addr} {C1 : Addr} {nm1 q1 : Str} {N1 : Addr} {bs1 : List Value} {sn1 : List Str} {sb1 : List Value} {ab1 : Bool} {cl1 : Option Bool} {dd1 : Option Addr} {ma1 mb1 mc1 md1 me1 : Option Value} {g1 : Addr} {oI1 kI1 dI1 pI1 vI1 tI1 : Value} {eI1 nI1 : Option Addr} {sI1 : Array (Option Value)}
    (a_is_signs : PySem.W.nsIn K mainGlobals "is_signs" = some (some (.ref f0)))
    (l_is_signs : K.lookup f0 = some ⟨oc0, od0, .func (PySem.W.fnOf "is_signs" "is_signs" (defArgs s_is_signs) (defBody s_is_signs) (defScope s_is_signs) .none kV0 dc0 pm0 an0 cv0 ct0), sl0⟩)
    (c_is_signs : PySem.W.codeIn K cv0 "is_signs" = true)
    (k_is_signs : PySem.W.keepIn K (.ref f0) = true)
    (a_need_signs : PySem.W.nsIn K mainGlobals "need_signs" = some (some (.ref f1)))
    (l_need_signs : K.lookup f1 = some ⟨oc1, od1, .func (PySem.W.fnOf "need_signs" "need_signs" (defArgs s_need_signs) (defBody s_need_signs) (defScope s_need_signs) .none kV1 dc1 pm1 an1 cv1 ct1), sl1⟩)
    (c_need_signs : PySem.W.codeIn K cv1 "need_signs" = true)
    (k_need_signs : PySem.W.keepIn K (.ref f1) = true)
    (a_sum_of : PySem.W.nsIn K mainGlobals "sum_of" = some (some (.ref f2)))
    (l_sum_of : K.lookup f2 = some ⟨oc2, od2, .func (PySem.W.fnOf "sum_of" "sum_of" (defArgs s_sum_of) (defBody s_sum_of) (defScope s_sum_of) .none kV2 dc2 pm2 an2 cv2 ct2), sl2⟩)
    (c_sum_of : PySem.W.codeIn K cv2 "sum_of" = true)
    (k_sum_of : PySem.W.keepIn K (.ref f2) = true)
    (a__law_cell : PySem.W.nsIn K mainGlobals "_law_cell" = some (some (.ref f3)))
    (l__law_cell : K.lookup f3 = some ⟨oc3, od3, .func (PySem.W.fnOf "_law_cell" "_law_cell" (defArgs s__law_cell) (defBody s__law_cell) (defScope s__law_cell) .none kV3 dc3 pm3 an3 cv3 ct3), sl3⟩)
    (c__law_cell : PySem.W.codeIn K cv3 "_law_cell" = true)
    (k__law_cell : PySem.W.keepIn K (.ref f3) = true)
    (a__law_box : PySem.W.nsIn K mainGlobals "_law_box" = some (some (.ref f4)))
    (l__law_box : K.lookup f4 = some ⟨oc4, od4, .func (PySem.W.fnOf "_law_box" "_law_box" (defArgs s__law_box) (defBody s__law_box) (defScope s__law_box) .none kV4 dc4 pm4 an4 cv4 ct4), sl4⟩)
    (c__law_box : PySem.W.codeIn K cv4 "_law_box" = true)
    (k__law_box : PySem.W.keepIn K (.ref f4) = true)
    (a__law_take : PySem.W.nsIn K mainGlobals "_law_take" = some (some (.ref f5)))
    (l__law_take : K.lookup f5 = some ⟨oc5, od5, .func (PySem.W.fnOf "_law_take" "_law_take" (defArgs s__law_take) (defBody s__law_take) (defScope s__law_take) .none kV5 dc5 pm5 an5 cv5 ct5), sl5⟩)
    (c__law_take : PySem.W.codeIn K cv5 "_law_take" = true)
    (k__law_take : PySem.W.keepIn K (.ref f5) = true)
    (a__law_signs : PySem.W.nsIn K mainGlobals "_law_signs" = some (some (.ref f6)))
    (l__law_signs : K.lookup f6 = some ⟨oc6, od6, .func (PySem.W.fnOf "_law_signs" "_law_signs" (defArgs s__law_signs) (defBody s__law_signs) (defScope s__law_signs) .none kV6 dc6 pm6 an6 cv6 ct6), sl6⟩)
    (c__law_signs : PySem.W.codeIn K cv6 "_law_signs" = true)
    (k__law_signs : PySem.W.keepIn K (.ref f6) = true)
    (a__law_sum : PySem.W.nsIn K mainGlobals "_law_sum" = some (some (.ref f7)))
    (l__law_sum : K.lookup f7 = some ⟨oc7, od7, .func (PySem.W.fnOf "_law_sum" "_law_sum" (defArgs s__law_sum) (defBody s__law_sum) (defScope s__law_sum) .none kV7 dc7 pm7 an7 cv7 ct7), sl7⟩)
    (c__law_sum : PySem.W.codeIn K cv7 "_law_sum" = true)
    (k__law_sum : PySem.W.keepIn K (.ref f7) = true)
    (a__law_turned : PySem.W.nsIn K mainGlobals "_law_turned" = some (some (.ref f8)))
    (l__law_turned : K.lookup f8 = some ⟨oc8, od8, .func (PySem.W.fnOf "_law_turned" "_law_turned" (defArgs s__law_turned) (defBody s__law_turned) (defScope s__law_turned) .none kV8 dc8 pm8 an8 cv8 ct8), sl8⟩)
    (c__law_turned : PySem.W.codeIn K cv8 "_law_turned" = true)
    (k__law_turned : PySem.W.keepIn K (.ref f8) = true)
    (a__law_found : PySem.W.nsIn K mainGlobals "_law_found" = some (some (.ref f9)))
    (l__law_found : K.lookup f9 = some ⟨oc9, od9, .func (PySem.W.fnOf "_law_found" "_law_found" (defArgs s__law_found) (defBody s__law_found) (defScope s__law_found) .none kV9 dc9 pm9 an9 cv9 ct9), sl9⟩)
    (c__law_found : PySem.W.codeIn K cv9 "_law_found" = true)
    (k__law_found : PySem.W.keepIn K (.ref f9) = true)
    (a__law_case : PySem.W.nsIn K mainGlobals "_law_case" = some (some (.ref f10)))
    (l__law_case : K.lookup f10 = some ⟨oc10, od10, .func (PySem.W.fnOf "_law_case" "_law_case" (defArgs s__law_case) (defBody s__law_case) (defScope s__law_case) .none kV10 dc10 pm10 an10 cv10 ct10), sl10⟩)
    (c__law_case : PySem.W.codeIn K cv10 "_law_case" = true)
    (k__law_case : PySem.W.keepIn K (.ref f10) = true)
    (a_law : PySem.W.nsIn K mainGlobals "law" = some (some (.ref f11)))
    (l_law : K.lookup f11 = some ⟨oc11, od11, .func (PySem.W.fnOf "law" "law" (defArgs s_law) (defBody s_law) (defScope s_law) .none kV11 dc11 pm11 an11 cv11 ct11), sl11⟩)
    (c_law : PySem.W.codeIn K cv11 "law" = true)
    (k_law : PySem.W.keepIn K (.ref f11) = true)
    (z_str : PySem.W.nsIn K mainGlobals "str" = some none)
    (z_isinstance : PySem.W.nsIn K mainGlobals "isinstance" = some none)
    (z_int : PySem.W.nsIn K mainGlobals "int" = some none)
    (z_len : PySem.W.nsIn K mainGlobals "len" = some none)
    (z_max : PySem.W.nsIn K mainGlobals "max" = some none)
    (z_range : PySem.W.nsIn K mainGlobals "range" = some none)
    (z_repr : PySem.W.nsIn K mainGlobals "repr" = some none)
    (z_min : PySem.W.nsIn K mainGlobals "min" = some none)
    (v_BY : PySem.W.nsIn K mainGlobals "BY" = some (some (.int (31) tk0)))
    (v_PRIME : PySem.W.nsIn K mainGlobals "PRIME" = some (some (.int (65521) tk1)))
    (ac_TimesError : PySem.W.nsIn K mainGlobals "TimesError" = some (some (.ref C0)))
    (ac_NoSigns : PySem.W.nsIn K mainGlobals "NoSigns" = some (some (.ref C1)))
    (t_ga : PySem.W.specialIn K (.ref C0) "__getattribute__" = some (some (.builtin "type.__getattribute__")))
    (t_rd : PySem.W.readsIn K C0 (.type "type") = true)
    (t_ini : PySem.W.findCls K (.ref C0) (.type "type") "__init__" = some (.val (.builtin "ValueError.__init__")))
    (xl_NoSigns : K.lookup C1 = some (excClassObj nm1 q1 C1 N1 bs1 [.ref C0, .type "ValueError", .type "Exception", .type "BaseException", .type "object"] true sn1 sb1 ab1 cl1 dd1 ma1 mb1 mc1 md1 me1 "ValueError.__new__"))
    (sa_NoSigns : PySem.W.findIn K (.ref C1) "__setattr__" = some (some (.builtin "object.__setattr__")))
    (be_NoSigns : PySem.W.subIn K (.ref C1) (.type "BaseException") = some true)
    (ty_NoSigns : PySem.W.typeIn K (.ref C1) = some (.type "type"))
    (kc_NoSigns : PySem.W.keepIn K (.ref C1) = true)
    (ii_NoSigns : PySem.W.findIn K (.ref C1) "__init__" = some (some (.ref g1)))
    (ti_NoSigns : PySem.W.typeIn K (.ref g1) = some (.type "function"))
    (li_NoSigns : K.lookup g1 = some ⟨oI1, eI1, .func (PySem.W.fnOf "__init__" "NoSigns.__init__" (defArgs s_NoSigns) (defBody s_NoSigns) (defScope s_NoSigns) .none kI1 dI1 pI1 nI1 vI1 tI1), sI1⟩)
    (ci_NoSigns : PySem.W.codeIn K vI1 "NoSigns.__init__" = true)
    (ki_NoSigns : PySem.W.keepIn K (.ref g1) = true)
    (xf_NoSigns_found : PySem.W.findIn K (.ref C1) "found" = some none)
    (is_NoSigns : PySem.W.isClsIn K C1 = true)
    (s_NoSigns_NoSigns : PySem.W.subIn K (.ref C1) (.ref C1) = some true)
    (be_TimesError : PySem.W.subIn K (.ref C0) (.type "BaseException") = some true)
    (ty_TimesError : PySem.W.typeIn K (.ref C0) = some (.type "type"))
    (is_TimesError : PySem.W.isClsIn K C0 = true)
    (s_NoSigns_TimesError : PySem.W.subIn K (.ref C1) (.ref C0) = some true)
    (fg_NoSigns : PySem.W.findIn K (.ref C1) "__getattribute__" = some (some (.builtin "BaseException.__getattribute__")))
    (fn_NoSigns : PySem.W.findIn K (.ref C1) "__getattr__" = some none)
    (fh_NoSigns : PySem.W.hasDictIn K C1 = true) :
    ∃ (cd : Nat → Addr) (fd : FuncData), Binds K fd ["_law_script"] [] ∧ ∀ base : Heap, K.In base → base.Ns mainGlobals mg → FnG P w K mg base 8 fa0 fd ["_law_script"] (liftSp ⟨K, cd, fun _ => False⟩ sp_law) := by
  have e := hfa.symm.trans (PySem.W.mg_of X G a_law)
  cases e
  have F_is_signs := fun_mk (st := s_is_signs) l_is_signs c_is_signs k_is_signs
  have b_is_signs := F_is_signs.binds (ps := ["thing"]) fun _ _ _ _ _ _ us hl => match us, hl with | [_], _ => rfl
  have F_need_signs := fun_mk (st := s_need_signs) l_need_signs c_need_signs k_need_signs
  have b_need_signs := F_need_signs.binds (ps := ["thing"]) fun _ _ _ _ _ _ us hl => match us, hl with | [_], _ => rfl
  have F_sum_of := fun_mk (st := s_sum_of) l_sum_of c_sum_of k_sum_of
  have b_sum_of := F_sum_of.binds (ps := ["signs"]) fun _ _ _ _ _ _ us hl => match us, hl with | [_], _ => rfl
  have F__law_cell := fun_mk (st := s__law_cell) l__law_cell c__law_cell k__law_cell
  have b__law_cell := F__law_cell.binds (ps := ["_law_script", "_law_k"]) fun _ _ _ _ _ _ us hl => match us, hl with | [_, _], _ => rfl
  have F__law_box := fun_mk (st := s__law_box) l__law_box c__law_box k__law_box
  have b__law_box := F__law_box.binds (ps := ["_law_cell_here"]) fun _ _ _ _ _ _ us hl => match us, hl with | [_], _ => rfl
  have F__law_take := fun_mk (st := s__law_take) l__law_take c__law_take k__law_take
  have b__law_take := F__law_take.binds (ps := ["_law_box_here", "_law_many"]) fun _ _ _ _ _ _ us hl => match us, hl with | [_, _], _ => rfl
  have F__law_signs := fun_mk (st := s__law_signs) l__law_signs c__law_signs k__law_signs
  have b__law_signs := F__law_signs.binds (ps := ["_law_box_here"]) fun _ _ _ _ _ _ us hl => match us, hl with | [_], _ => rfl
  have F__law_sum := fun_mk (st := s__law_sum) l__law_sum c__law_sum k__law_sum
  have b__law_sum := F__law_sum.binds (ps := ["_law_signs_here"]) fun _ _ _ _ _ _ us hl => match us, hl with | [_], _ => rfl
  have F__law_turned := fun_mk (st := s__law_turned) l__law_turned c__law_turned k__law_turned
  have b__law_turned := F__law_turned.binds (ps := ["_law_signs_here", "_law_at"]) fun _ _ _ _ _ _ us hl => match us, hl with | [_, _], _ => rfl
  have F__law_found := fun_mk (st := s__law_found) l__law_found c__law_found k__law_found
  have b__law_found := F__law_found.binds (ps := ["_law_thing"]) fun _ _ _ _ _ _ us hl => match us, hl with | [_], _ => rfl
  have F__law_case := fun_mk (st := s__law_case) l__law_case c__law_case k__law_case
  have b__law_case := F__law_case.binds (ps := ["_law_box_here"]) fun _ _ _ _ _ _ us hl => match us, hl with | [_], _ => rfl
  have F_law := fun_mk (st := s_law) l_law c_law k_law
  have b_law := F_law.binds (ps := ["_law_script"]) fun _ _ _ _ _ _ us hl => match us, hl with | [_], _ => rfl
  have FI_NoSigns := fun_mk (st := s_NoSigns) li_NoSigns ci_NoSigns ki_NoSigns
  have bI_NoSigns := FI_NoSigns.binds (ps := ["self", "found"]) fun _ _ _ _ _ _ us hl => match us, hl with | [_, _], _ => rfl
  have TX : TopX K mg "TimesError" C0 := ⟨PySem.W.mg_of X G ac_TimesError, t_ga, t_rd, t_ini⟩
  refine ⟨fun i => match i with | 0 => C0 | 1 => C1 | _ => 0, _, b_law, fun base _ _ => ?_⟩
  refine ok_law (K := K) (fa := fun i => match i with | 0 => f0 | 1 => f1 | 2 => f2 | 3 => f3 | 4 => f4 | 5 => f5 | 6 => f6 | 7 => f7 | 8 => f8 | 9 => f9 | 10 => f10 | 11 => fa0 | _ => 0) (fd := fun i => match i with | 0 => PySem.W.fnOf "is_signs" "is_signs" (defArgs s_is_signs) (defBody s_is_signs) (defScope s_is_signs) .none kV0 dc0 pm0 an0 cv0 ct0 | 1 => PySem.W.fnOf "need_signs" "need_signs" (defArgs s_need_signs) (defBody s_need_signs) (defScope s_need_signs) .none kV1 dc1 pm1 an1 cv1 ct1 | 2 => PySem.W.fnOf "sum_of" "sum_of" (defArgs s_sum_of) (defBody s_sum_of) (defScope s_sum_of) .none kV2 dc2 pm2 an2 cv2 ct2 | 3 => PySem.W.fnOf "_law_cell" "_law_cell" (defArgs s__law_cell) (defBody s__law_cell) (defScope s__law_cell) .none kV3 dc3 pm3 an3 cv3 ct3 | 4 => PySem.W.fnOf "_law_box" "_law_box" (defArgs s__law_box) (defBody s__law_box) (defScope s__law_box) .none kV4 dc4 pm4 an4 cv4 ct4 | 5 => PySem.W.fnOf "_law_take" "_law_take" (defArgs s__law_take) (defBody s__law_take) (defScope s__law_take) .none kV5 dc5 pm5 an5 cv5 ct5 | 6 => PySem.W.fnOf "_law_signs" "_law_signs" (defArgs s__law_signs) (defBody s__law_signs) (defScope s__law_signs) .none kV6 dc6 pm6 an6 cv6 ct6 | 7 => PySem.W.fnOf "_law_sum" "_law_sum" (defArgs s__law_sum) (defBody s__law_sum) (defScope s__law_sum) .none kV7 dc7 pm7 an7 cv7 ct7 | 8 => PySem.W.fnOf "_law_turned" "_law_turned" (defArgs s__law_turned) (defBody s__law_turned) (defScope s__law_turned) .none kV8 dc8 pm8 an8 cv8 ct8 | 9 => PySem.W.fnOf "_law_found" "_law_found" (defArgs s__law_found) (defBody s__law_found) (defScope s__law_found) .none kV9 dc9 pm9 an9 cv9 ct9 | 10 => PySem.W.fnOf "_law_case" "_law_case" (defArgs s__law_case) (defBody s__law_case) (defScope s__law_case) .none kV10 dc10 pm10 an10 cv10 ct10 | 11 => PySem.W.fnOf "law" "law" (defArgs s_law) (defBody s_law) (defScope s_law) .none kV11 dc11 pm11 an11 cv11 ct11 | _ => PySem.W.fnOf "law" "law" (defArgs s_law) (defBody s_law) (defScope s_law) .none kV0 dc0 pm0 an0 cv0 ct0) (ct := fun i => match i with | 0 => tk0 | 1 => tk1 | _ => 0) (cd := fun i => match i with | 0 => C0 | 1 => C1 | _ => 0) ?_ _
  exact {
    f_is_signs := F_is_signs, m_is_signs := PySem.W.mg_of X G a_is_signs, b_is_signs := b_is_signs
    f_need_signs := F_need_signs, m_need_signs := PySem.W.mg_of X G a_need_signs, b_need_signs := b_need_signs
    f_sum_of := F_sum_of, m_sum_of := PySem.W.mg_of X G a_sum_of, b_sum_of := b_sum_of
    f__law_cell := F__law_cell, m__law_cell := PySem.W.mg_of X G a__law_cell, b__law_cell := b__law_cell
    f__law_box := F__law_box, m__law_box := PySem.W.mg_of X G a__law_box, b__law_box := b__law_box
    f__law_take := F__law_take, m__law_take := PySem.W.mg_of X G a__law_take, b__law_take := b__law_take
    f__law_signs := F__law_signs, m__law_signs := PySem.W.mg_of X G a__law_signs, b__law_signs := b__law_signs
    f__law_sum := F__law_sum, m__law_sum := PySem.W.mg_of X G a__law_sum, b__law_sum := b__law_sum
    f__law_turned := F__law_turned, m__law_turned := PySem.W.mg_of X G a__law_turned, b__law_turned := b__law_turned
    f__law_found := F__law_found, m__law_found := PySem.W.mg_of X G a__law_found, b__law_found := b__law_found
    f__law_case := F__law_case, m__law_case := PySem.W.mg_of X G a__law_case, b__law_case := b__law_case
    f_law := F_law, m_law := PySem.W.mg_of X G a_law, b_law := b_law
    z_str := PySem.W.mg_none_of X G z_str
    z_isinstance := PySem.W.mg_none_of X G z_isinstance
    z_int := PySem.W.mg_none_of X G z_int
    z_len := PySem.W.mg_none_of X G z_len
    z_max := PySem.W.mg_none_of X G z_max
    z_range := PySem.W.mg_none_of X G z_range
    z_repr := PySem.W.mg_none_of X G z_repr
    z_min := PySem.W.mg_none_of X G z_min
    c_BY := PySem.W.mg_of X G v_BY
    c_PRIME := PySem.W.mg_of X G v_PRIME
    x_NoSigns := ⟨PySem.W.mg_of X G ac_NoSigns, ⟨⟨_, _, _, _, _, _, _, _, _, _, _, _, _, _, _, xl_NoSigns, (by first | decide +kernel | (show PySem.HandSPX.refsVE [.type "ValueError", .type "Exception", .type "BaseException", .type "object"] = true; decide +kernel))⟩, sa_NoSigns, be_NoSigns, ty_NoSigns, kc_NoSigns⟩, ⟨_, _, ii_NoSigns, ti_NoSigns, bI_NoSigns, init1_ok FI_NoSigns ⟨rfl, rfl, rfl, by decide +kernel, rfl, by decide +kernel, by decide +kernel⟩ TX rfl rfl rfl rfl (by decide) (by decide) (fun _ => ⟨_, rfl⟩)⟩⟩
    xf_NoSigns_found := xf_NoSigns_found
    n_NoSigns := PySem.W.mg_of X G ac_NoSigns
    h_NoSigns := fun C b hb => by
      unfold hit_NoSigns at hb
      split at hb
      · cases hb; exact exm_of be_NoSigns is_NoSigns ty_NoSigns s_NoSigns_NoSigns
      · cases hb
    n_TimesError := PySem.W.mg_of X G ac_TimesError
    h_TimesError := fun C b hb => by
      unfold hit_TimesError at hb
      split at hb
      · cases hb; exact exm_of be_TimesError is_TimesError ty_TimesError s_NoSigns_TimesError
      · cases hb
    fx_NoSigns_found := fun C hb => by
      unfold hit_NoSigns at hb
      split at hb
      · exact ⟨fg_NoSigns, fn_NoSigns, be_NoSigns, fh_NoSigns, xf_NoSigns_found⟩
      · cases hb
  }
end K25

set_option linter.all false
set_option maxRecDepth 100000
namespace K25
open PySem PySem.Spec PyProof.Rows L2 TL
/-! ### draws -/
def Box (M : Mp) (b : Addr) (n : Nat) : Prop := ∃ x y z : Int, M b = some (.lst, [.int x, .int y, .int z]) ∧ 0 ≤ x ∧ 0 ≤ y ∧ y < 2147483629 ∧ 0 ≤ z ∧ z ≤ n
theorem Box.up {M : Mp} {b : Addr} {n k : Nat} (h : Box M b n) (hk : n ≤ k) : Box M b k := by
  obtain ⟨x, y, z, h1, h2, h3, h4, h5, h6⟩ := h
  exact ⟨x, y, z, h1, h2, h3, h4, h5, by omega⟩
theorem Box.same {M M' : Mp} {b : Addr} {n : Nat} (h : Box M b n) (e : M' b = M b) : Box M' b n := by
  obtain ⟨x, y, z, h1, h2⟩ := h
  exact ⟨x, y, z, by rw [e]; exact h1, h2⟩
theorem w_take {b : Addr} {m : Int} {n : Nat} {M : Mp} {Q E : TK} (hb : Box M b n) (hn : n ≤ 1000000) (hm : 0 < m) (hm2 : m.natAbs.log2 < 9000) (k : ∀ d M', 0 ≤ d → d < m → Box M' b (n + 1) → (∀ a, a ≠ b → M' a = M a) → Q (.int d) M') : sp__law_take [.obj b, .int m] M Q E := by
  obtain ⟨x, y, z, hM, hx, hy, hy2, hz, hz2⟩ := hb
  by_cases h0 : 0 < x
  · simp [sp__law_take, t__law_take, a__law_take_1, a__law_take_2, a__law_take_3, a__law_take_4, a__law_take_5, TL.startT, hM, h0, ixN, hm, hm2, CDivW]
    refine retq_id (k _ _ (Int.emod_nonneg _ (by omega)) (Int.emod_lt_of_pos _ hm) ⟨_, _, _, updM_same, ?_⟩ fun a h => updM_ne h)
    have := Int.ediv_nonneg hx (Int.le_of_lt hm)
    omega
  · simp [sp__law_take, t__law_take, a__law_take_1, a__law_take_2, a__law_take_3, a__law_take_4, a__law_take_5, TL.startT, hM, h0, ixN, hm, hm2, CDivW, CPow]
    refine ⟨.inl (.inl (by omega)), by omega, .inl (.inl (by omega)), ?_, by decide, retq_id (k _ _ (Int.emod_nonneg _ (by omega)) (Int.emod_lt_of_pos _ hm) ⟨_, _, _, updM_same, by omega⟩ fun a h => updM_ne h)⟩
    generalize (y + 7919 * (z + 1) + 17) ^ 5 = A
    omega
/-! ### texts of noughts and ones -/
def bit (c : Nat) : Bool := c == 48 || c == 49
def bits (y : Str) : Prop := y.cps.toList.all bit = true
theorem signs_map (l : List Nat) : (l.map fun c => (T.str ⟨#[c]⟩)) = l.map fun c => (T.str ⟨#[c]⟩) := rfl
theorem lp_is (l : List Nat) {D : TEnds} {v : T} {M : Mp} : ∀ o : Option T, (l.all bit = true → ∀ o, D.nx [some v, o] M) → (l.all bit = false → D.rt (.bl false) M) → forR (fun _ => True) (gName1 1) b_is_signs_1 D (l.map fun c => (T.str ⟨#[c]⟩)) [some v, o] M := by
  induction l with
  | nil => intro o h1 _; simp; exact h1 rfl o
  | cons c l ih =>
    intro o h1 h2
    have e : (Str.ofString "01").cps.toList = [48, 49] := by decide +kernel
    simp only [List.map_cons, e_forc, b_is_signs_1, e_if, e_bl, e_op, e_var, e_c, e_gName, e_inC, e_blk, e_ret, e_next, List.set_cons_succ, List.set_cons_zero, List.getElem?_cons_succ, List.getElem?_cons_zero, e, true_and]
    by_cases hc : bit c = true
    · have hm : c ∈ [48, 49] := by unfold bit at hc; simpa using hc
      have d : (decide (c ∈ [48, 49]) ^^ true) = false := by simp [hm]
      rw [d, if_neg Bool.false_ne_true]
      refine ih _ (fun hl => h1 ?_) (fun hl => h2 ?_)
      · rw [List.all_cons, hc, hl]; rfl
      · rw [List.all_cons, hc, hl]; rfl
    · have hc' : bit c = false := by simpa using hc
      have hm : ¬ c ∈ [48, 49] := by unfold bit at hc; simpa using hc
      have d : (decide (c ∈ [48, 49]) ^^ true) = true := by simp [hm]
      rw [d, if_pos rfl]
      exact h2 (by rw [List.all_cons, hc']; rfl)
theorem w_is_signs {y : Str} {M : Mp} {Q E : TK} (q : Q (.bl (y.cps.toList.all bit)) M) : sp_is_signs [.str y] M Q E := by
  simp [sp_is_signs, t_is_signs, TL.startT, isB, isTab, signsT]
  refine lp_is _ none (fun h o => ?_) (fun h => ?_)
  · simp
    rw [h] at q
    exact retq_id q
  · rw [h] at q
    exact retq_id q
/-- no text of noughts and ones -/
def noSg (M : Mp) (t : T) : Prop := (∃ y, t = .str y ∧ y.cps.toList.all bit = false) ∨ ∃ a, tyN M t = some a ∧ isB a "str" = false ∧ (a, "str", isB a "str") ∈ isTab
theorem w_is_no {t : T} {M : Mp} {Q E : TK} (h : noSg M t) (q : Q (.bl false) M) : sp_is_signs [t] M Q E := by
  rcases h with ⟨y, rfl, h⟩ | ⟨a, h1, h2, h3⟩
  · exact w_is_signs (by rw [h]; exact q)
  · simp only [sp_is_signs, t_is_signs, TL.startT, e_own, e_seq, e_if, e_not, e_bl, e_cb, e_cons, e_var, e_c, e_nil, e_inst]
    simp [h1, h2]
    exact ⟨h2 ▸ h3, retq_id q⟩
theorem w_need_ok {y : Str} {M : Mp} {Q E : TK} (h : bits y) (q : Q .non M) : sp_need_signs [.str y] M Q E := by
  simp [sp_need_signs, t_need_signs, TL.startT]
  refine w_is_signs ?_
  rw [show y.cps.toList.all bit = true from h]
  simp
  exact retq_id q
theorem w_need_no {t : T} {M : Mp} {Q E : TK} (h : noSg M t) (q : E (.node (.exc 1 ["found"]) [t]) M) : sp_need_signs [t] M Q E := by
  simp [sp_need_signs, t_need_signs, TL.startT]
  refine w_is_no h ?_
  simp
  exact exq_id q
/-! ### the sum -/
def stp (t : Int) (c : Nat) : Int := (31 * t + (if c = 49 then 1 else 0)) % 65521
def smL (l : List Nat) (t : Int) : Int := l.foldl stp t
theorem is1 (c : Nat) : decide ((⟨#[c]⟩ : Str) = Str.ofString "1") = decide (c = 49) := by
  have e : Str.ofString "1" = ⟨#[49]⟩ := by decide +kernel
  rw [e]
  by_cases h : c = 49
  · subst h; simp
  · rw [decide_eq_false h, decide_eq_false]
    intro q
    exact h (by simpa using q)
theorem lp_sum (l : List Nat) {D : TEnds} {v : T} {M : Mp} : ∀ (t : Int) (o : Option T), (∀ o, D.nx [some v, some (.int (smL l t)), o] M) → forR (fun _ => True) (gName1 2) b_sum_of_1 D (l.map fun c => (T.str ⟨#[c]⟩)) [some v, some (.int t), o] M := by
  induction l with
  | nil => intro t o h; simp; exact h o
  | cons c l ih =>
    intro t o h
    simp [b_sum_of_1, is1]
    refine ⟨.inl (.inl (by omega)), ?_⟩
    have e : (31 * t + if c = 49 then 1 else 0) % 65521 = stp t c := rfl
    rw [e]
    exact ih (stp t c) _ h
theorem lp_sum2 (l : List Nat) {D : TEnds} {v : T} {M : Mp} : ∀ (t : Int) (o : Option T), (∀ o, D.nx [some v, some (.int (smL l t)), o] M) → forR (fun _ => True) (gName1 2) b__law_sum_1 D (l.map fun c => (T.str ⟨#[c]⟩)) [some v, some (.int t), o] M := by
  induction l with
  | nil => intro t o h; simp; exact h o
  | cons c l ih =>
    intro t o h
    simp [b__law_sum_1, is1]
    refine ⟨.inl (.inr (by omega)), ⟨by decide, ?_⟩, .inl (.inr (by omega)), ?_⟩
    · decide +kernel
    · have e : ∀ a : Int, a - a / 65521 * 65521 = a % 65521 := fun a => by omega
      rw [e]
      have e : (t * 31 + if c = 49 then 1 else 0) % 65521 = stp t c := by unfold stp; rw [Int.mul_comm]
      rw [e]
      exact ih (stp t c) _ h
def sm (y : Str) : Int := smL y.cps.toList 1
theorem w_sum {y : Str} {M : Mp} {Q E : TK} (h : bits y) (q : Q (.int (sm y)) M) : sp_sum_of [.str y] M Q E := by
  simp [sp_sum_of, t_sum_of, TL.startT]
  refine w_need_ok h ?_
  simp [signsT]
  refine lp_sum _ 1 none fun o => ?_
  simp
  exact retq_id q
theorem w_sum_no {t : T} {M : Mp} {Q E : TK} (h : noSg M t) (q : E (.node (.exc 1 ["found"]) [t]) M) : sp_sum_of [t] M Q E := by
  simp [sp_sum_of, t_sum_of, TL.startT]
  exact w_need_no h (exq_id q)
theorem w_lsum {y : Str} {M : Mp} {Q E : TK} (q : Q (.int (sm y)) M) : sp__law_sum [.str y] M Q E := by
  simp [sp__law_sum, t__law_sum, TL.startT, signsT]
  refine lp_sum2 _ 1 none fun o => ?_
  simp
  exact retq_id q
/-! ### drawn texts -/
theorem bits_one {c : Nat} (h : c = 48 ∨ c = 49) : bits ⟨#[c]⟩ := by
  unfold bits
  rcases h with rfl | rfl <;> rfl
theorem at01 {d : Int} (h0 : 0 ≤ d) (h1 : d < 2) : ∃ c, (c = 48 ∨ c = 49) ∧ L2.atI (Str.ofString "01").cps.toList d = some c := by
  have e : (Str.ofString "01").cps.toList = [48, 49] := by decide +kernel
  rw [e]
  have : d = 0 ∨ d = 1 := by omega
  rcases this with rfl | rfl
  · exact ⟨48, .inl rfl, by simp⟩
  · exact ⟨49, .inr rfl, by simp⟩
/-- one sign's list -/
def ones (l : List Nat) : List T := l.map fun c => .str ⟨#[c]⟩
theorem ones_snoc (l : List Nat) (c : Nat) : ones l ++ [.str ⟨#[c]⟩] = ones (l ++ [c]) := by unfold ones; simp
theorem lc_signs {b : Addr} {w1 w2 : T} {Q : List T → Mp → Prop} : ∀ (k i : Nat) (l : List Nat) (M : Mp) (n : Nat), Box M b n → n + k ≤ 1000000 → l.length + k ≤ 1000 → l.all bit = true →
    (∀ M' l', Box M' b (n + k) → l'.length = l.length + k → l'.all bit = true → (∀ a, a ≠ b → M' a = M a) → Q (ones l') M') →
    lcR (fun _ => True) (.nm 3) tYes1 c__law_signs_1 [some (.obj b), some w1, some w2, none] Q ((List.range' i k).map fun j => T.int (0 + (j : Nat))) (ones l) M
  | 0, i, l, M, n, hb, hn, hl, hl2, h => by
    simp
    exact h M l hb rfl hl2 fun _ _ => rfl
  | k + 1, i, l, M, n, hb, hn, hl, hl2, h => by
    rw [List.range'_succ, List.map_cons]
    simp [c__law_signs_1]
    refine w_take hb (by omega) (by omega) (by decide) fun d M1 d0 d1 hb1 fr => ?_
    obtain ⟨c, hc, e⟩ := at01 d0 d1
    rw [e_ixS, e]
    dsimp only
    have hs := sizeLine_eq
    refine ⟨by decide +kernel, by unfold ones; simp; omega, ?_⟩
    rw [ones_snoc]
    have := lc_signs (w1 := w1) (w2 := w2) (Q := Q) k (i + 1) (l ++ [c]) M1 (n + 1) hb1 (by omega) (by simp; omega) (by
      rw [List.all_append, hl2]
      rcases hc with rfl | rfl <;> rfl) (fun M' l' h1 h2 h3 h4 => h M' l' (h1.up (by omega)) (by rw [h2]; simp; omega) h3 fun a ha => (h4 a ha).trans (fr a ha))
    simp at this
    exact this
theorem rng_eq (k : Nat) : rngT 0 k = (List.range' 0 k).map fun j => T.int (0 + (j : Nat)) := by
  unfold rngT
  rw [List.range_eq_range']
theorem allS_ones (l : List Nat) : allS (ones l) = some (l.map fun c => (⟨#[c]⟩ : Str)) := by
  have : ones l = (l.map fun c => (⟨#[c]⟩ : Str)).map T.str := by unfold ones; simp
  rw [this, allS_map]
theorem join_ones (l : List Nat) : Txt.join (Str.ofString "") (l.map fun c => (⟨#[c]⟩ : Str)) = ⟨l.toArray⟩ := by
  have e : Txt.join (Str.ofString "") (l.map fun c => (⟨#[c]⟩ : Str)) = Str.join (Str.ofString "") (l.map fun c => (⟨#[c]⟩ : Str)) := StrLaws.glued_eq_join _ _
  rw [e]
  have e0 : Str.ofString "" = (⟨#[]⟩ : Str) := by decide +kernel
  rw [e0]
  have app : ∀ a b : Str, a ++ b = ⟨a.cps ++ b.cps⟩ := fun _ _ => rfl
  have go : ∀ (l : List Nat), Str.join (⟨#[]⟩ : Str) (l.map fun c => (⟨#[c]⟩ : Str)) = ⟨l.toArray⟩ := by
    intro l
    induction l with
    | nil => rfl
    | cons c l ih =>
      cases l with
      | nil => rfl
      | cons d l =>
        show (⟨#[c]⟩ : Str) ++ ⟨#[]⟩ ++ Str.join ⟨#[]⟩ ((d :: l).map fun c => (⟨#[c]⟩ : Str)) = _
        rw [ih, app, app]
        simp
  exact go l
theorem sum_ones (l : List Nat) : ((l.map fun c => (⟨#[c]⟩ : Str)).map (·.length)).sum = l.length := by
  induction l with
  | nil => rfl
  | cons c l ih => simp at ih ⊢; rw [ih]; show 1 + l.length = _; omega
theorem mul_bits {c : Nat} (h : c = 48 ∨ c = 49) {n : Int} (h0 : 0 ≤ n) : bits (Txt.mul ⟨#[c]⟩ n) ∧ (Txt.mul ⟨#[c]⟩ n).length = n.toNat := by
  have f : ∀ (k : Nat) (acc : Array Nat), List.foldl (fun x1 x2 => x1 ++ x2) acc (List.replicate k #[c]) = acc ++ (List.replicate k c).toArray := by
    intro k
    induction k with
    | zero => intro acc; simp
    | succ k ih =>
      intro acc
      rw [List.replicate_succ, List.foldl_cons, ih, List.replicate_succ]
      apply Array.ext'
      simp [List.replicate]
  unfold Txt.mul
  by_cases h1 : n < 1
  · rw [if_pos h1]
    have : n = 0 := by omega
    subst this
    exact ⟨rfl, rfl⟩
  · rw [if_neg h1]
    by_cases h2 : n = 1
    · subst h2
      exact ⟨bits_one h, rfl⟩
    · have h3 : (n == 1 || (⟨#[c]⟩ : Str).length == 0) = false := by
        rw [Bool.or_eq_false_iff]
        exact ⟨by simpa using h2, rfl⟩
      rw [if_neg (by rw [h3]; exact Bool.false_ne_true)]
      have := f n.toNat #[]
      have e : (⟨List.foldl (fun x1 x2 => x1 ++ x2) #[] (List.replicate n.toNat (⟨#[c]⟩ : Str).cps)⟩ : Str) = ⟨(List.replicate n.toNat c).toArray⟩ := by
        show (⟨List.foldl (fun x1 x2 => x1 ++ x2) #[] (List.replicate n.toNat #[c])⟩ : Str) = _
        rw [this]
        simp
      rw [e]
      constructor
      · unfold bits
        rw [List.all_eq_true]
        intro d hd
        have hd' : d ∈ (List.replicate n.toNat c).toArray.toList := hd
        rw [List.toList_toArray] at hd'
        have : d = c := (List.mem_replicate.mp hd').2
        subst this
        unfold bit
        rcases h with rfl | rfl <;> rfl
      · show (List.replicate n.toNat c).toArray.size = _
        simp
theorem w_signs {b : Addr} {n : Nat} {M : Mp} {Q E : TK} (hb : Box M b n) (hn : n ≤ 900000) (k : ∀ y M', bits y → y.length ≤ 250 → Box M' b (n + 300) → (∀ a, a ≠ b → M' a = M a) → Q (.str y) M') : sp__law_signs [.obj b] M Q E := by
  simp [sp__law_signs, t__law_signs, TL.startT]
  refine w_take hb (by omega) (by omega) (by decide) fun w M1 w0 w1 hb1 f1 => ?_
  refine w_take hb1 (by omega) (by omega) (by decide) fun p M2 p0 p1 hb2 f2 => ?_
  refine w_take hb2 (by omega) (by omega) (by decide) fun q M3 q0 q1 hb3 f3 => ?_
  refine ⟨by decide, .inl ?_⟩
  refine w_take hb3 (by omega) (by omega) (by decide) fun r M4 r0 r1 hb4 f4 => ?_
  have hp : ∃ g : Int, L2.atI [T.int p, T.int q, T.int 200, T.int 40] r = some (.int g) ∧ 0 ≤ g ∧ g ≤ 200 := by
    have : r = 0 ∨ r = 1 ∨ r = 2 ∨ r = 3 := by omega
    rcases this with rfl | rfl | rfl | rfl
    · exact ⟨p, by simp, p0, by omega⟩
    · exact ⟨q, by simp, q0, by omega⟩
    · exact ⟨200, by simp, by omega, by omega⟩
    · exact ⟨40, rfl, by omega, by omega⟩
  obtain ⟨g, hg, g0, g1⟩ := hp
  have fr : ∀ a, a ≠ b → M4 a = M a := fun a ha => (f4 a ha).trans ((f3 a ha).trans ((f2 a ha).trans (f1 a ha)))
  have hs := sizeLine_eq
  rw [e_ixL, hg]
  dsimp only
  rw [e_ltI, e_blk]
  by_cases hw : w < 2
  · obtain ⟨c, hc, e⟩ := at01 w0 hw
    rw [if_pos (decide_eq_true hw), e_ixS, e]
    dsimp only
    refine ⟨by decide +kernel, ?_⟩
    rw [e_mulS]
    obtain ⟨m1, m2⟩ := mul_bits hc g0
    refine ⟨mulOk_small g0 (by omega) (by show 1 ≤ 100; omega), retq_id (k _ _ m1 (by rw [m2]; omega) (hb4.up (by omega)) fr)⟩
  · rw [if_neg (by simpa using hw)]
    refine ⟨by omega, ?_⟩
    rw [rng_eq]
    refine lc_signs g.toNat 0 [] M4 _ hb4 (by omega) (by simp; omega) rfl fun M5 l hb5 hl hl2 f5 => .inl ?_
    simp only [e_rdSl, allS_ones, sum_ones, join_ones]
    refine ⟨?_, retq_id (k _ _ ?_ ?_ (hb5.up (by omega)) fun a ha => (f5 a ha).trans (fr a ha))⟩
    · have e0 : (Str.ofString "").length = 0 := by decide +kernel
      rw [e0]
      simp at hl
      omega
    · unfold bits
      simpa using hl2
    · show l.toArray.size ≤ 250
      simp at hl ⊢
      omega
/-! ### one sign turned -/
def fl (c : Nat) : Nat := if c = 48 then 49 else 48
def turn (l : List Nat) (k : Nat) : List Nat := l.take k ++ (((l.drop k).take 1).map fl ++ l.drop (k + 1))
theorem int0 : PySem.intText? ⟨#[48]⟩ = some 0 := by decide +kernel
theorem int1' : PySem.intText? ⟨#[49]⟩ = some 1 := by decide +kernel
theorem lc_turn {w1 w2 : T} {M : Mp} {Q : List T → Mp → Prop} : ∀ (l acc : List Nat), l.all bit = true → acc.length + l.length ≤ 1000 → Q (ones (acc ++ l.map fl)) M →
    lcR (fun _ => True) (.nm 2) tYes1 c__law_turned_1 [some w1, some w2, none] Q (l.map fun c => (T.str ⟨#[c]⟩)) (ones acc) M
  | [], acc, _, _, h => by simp at h ⊢; exact h
  | c :: l, acc, hb, hl, h => by
    have hs := sizeLine_eq
    rw [List.all_cons, Bool.and_eq_true] at hb
    have e10 : (Str.ofString "10").cps.toList = [49, 48] := by decide +kernel
    have l10 : (Str.ofString "10").length ≤ sizeLine := by decide +kernel
    have ih := lc_turn (w1 := w1) (w2 := w2) (M := M) (Q := Q) l (acc ++ [fl c]) hb.2 (by simp at hl ⊢; omega) (by simpa using h)
    have la : (ones acc).length < sizeLine := by unfold ones; simp at hl ⊢; omega
    have hc : c = 48 ∨ c = 49 := by
      have := hb.1
      unfold bit at this
      simpa using this
    simp only [List.map_cons, e_lcc, e_tgt, e_yes, true_and, if_true]
    rcases hc with rfl | rfl
    · simp only [c__law_turned_1, e_op, e_c, e_cb, e_cons, e_nil, e_var, List.set_cons_succ, List.set_cons_zero, List.getElem?_cons_succ, List.getElem?_cons_zero]
      unfold int1
      simp only [int0]
      refine ⟨by decide, ?_⟩
      rw [e_ixS, e10]
      refine ⟨l10, ?_⟩
      rw [e_at0]
      refine ⟨la, ?_⟩
      rw [ones_snoc]
      exact ih
    · simp only [c__law_turned_1, e_op, e_c, e_cb, e_cons, e_nil, e_var, List.set_cons_succ, List.set_cons_zero, List.getElem?_cons_succ, List.getElem?_cons_zero]
      unfold int1
      simp only [int1']
      refine ⟨by decide, ?_⟩
      rw [e_ixS, e10]
      refine ⟨l10, ?_⟩
      rw [e_at1]
      refine ⟨la, ?_⟩
      rw [ones_snoc]
      exact ih
theorem str_app (a b : List Nat) : (⟨a.toArray⟩ : Str) ++ ⟨b.toArray⟩ = ⟨(a ++ b).toArray⟩ := by
  show (⟨a.toArray ++ b.toArray⟩ : Str) = _
  simp
theorem cut_lo (y : Str) (k : Nat) (h : k ≤ y.length) : cutS y none (some (k : Int)) = ⟨(y.cps.toList.take k).toArray⟩ := by
  unfold cutS
  rw [HT.sIx_none, HT.sIx_nat]
  simp [Nat.min_eq_left h]
theorem cut_hi (y : Str) (k : Nat) : cutS y (some (k : Int)) none = ⟨(y.cps.toList.drop k).toArray⟩ := by
  have hl : y.cps.toList.length = y.length := rfl
  unfold cutS
  rw [HT.sIx_none, HT.sIx_nat]
  congr 2
  by_cases h : k ≤ y.length
  · rw [Nat.min_eq_left h]
    exact List.take_of_length_le (by rw [List.length_drop, hl]; omega)
  · rw [Nat.min_eq_right (by omega)]
    rw [List.drop_of_length_le (by rw [hl]; omega), List.drop_of_length_le (by rw [hl]; omega)]
    simp
theorem cut_mid (y : Str) (k : Nat) (h : k ≤ y.length) : cutS y (some (k : Int)) (some ((k + 1 : Nat) : Int)) = ⟨((y.cps.toList.drop k).take 1).toArray⟩ := by
  have hl : y.cps.toList.length = y.length := rfl
  unfold cutS
  rw [HT.sIx_nat, HT.sIx_nat, Nat.min_eq_left h]
  congr 2
  by_cases h2 : k + 1 ≤ y.length
  · rw [Nat.min_eq_left h2]
    congr 1
    omega
  · have e : k = y.length := by omega
    rw [List.drop_of_length_le (by rw [hl]; omega)]
    simp
theorem all_take {l : List Nat} {k : Nat} (h : l.all bit = true) : (l.take k).all bit = true := by
  rw [List.all_eq_true] at *
  exact fun x hx => h x (List.mem_of_mem_take hx)
theorem all_drop {l : List Nat} {k : Nat} (h : l.all bit = true) : (l.drop k).all bit = true := by
  rw [List.all_eq_true] at *
  exact fun x hx => h x (List.mem_of_mem_drop hx)
theorem fl_bit (l : List Nat) : (l.map fl).all bit = true := by
  rw [List.all_eq_true]
  intro x hx
  obtain ⟨c, _, rfl⟩ := List.mem_map.mp hx
  unfold fl bit
  split <;> rfl
theorem turn_bits {l : List Nat} {k : Nat} (h : l.all bit = true) : (turn l k).all bit = true := by
  unfold turn
  rw [List.all_append, List.all_append, all_take h, fl_bit, all_drop h]; rfl
theorem turn_len {l : List Nat} {k : Nat} (h : k ≤ l.length) : (turn l k).length = l.length := by
  unfold turn
  simp
  omega
theorem w_turned {y : Str} {k : Nat} {M : Mp} {Q E : TK} (hb : bits y) (hl : y.length ≤ 250) (h : k ≤ y.length) (q : Q (.str ⟨(turn y.cps.toList k).toArray⟩) M) : sp__law_turned [.str y, .int (k : Int)] M Q E := by
  have hs := sizeLine_eq
  have hl' : y.cps.toList.length = y.length := rfl
  have hl2 : y.cps.size ≤ 250 := hl
  simp only [sp__law_turned, t__law_turned, TL.startT, e_own]
  refine ⟨rfl, ?_⟩
  simp only [e_ret, e_op, e_sl, e_var, e_noP, e_part, e_bm, e_c, e_cons, e_nil, e_lc, e_sq, List.map_cons, List.map_nil, List.cons_append, List.getElem?_cons_zero, List.getElem?_cons_succ, e_slS, e_addI]
  refine ⟨by omega, trivial, by omega, ?_⟩
  have ek : (k : Int) + 1 = ((k + 1 : Nat) : Int) := by omega
  rw [ek, cut_lo y k h, cut_mid y k h, cut_hi y (k + 1)]
  unfold signsT
  simp only [List.length_cons, List.length_nil, List.replicate_succ, List.replicate_zero, List.nil_append, e_wipe1, e_wipe0, List.set_cons_succ, List.set_cons_zero]
  refine lc_turn _ [] (all_take (all_drop hb)) (by simp; omega) (.inl ?_)
  simp only [List.nil_append, e_join, e_rdSl, allS_ones, sum_ones, join_ones]
  have e0 : (Str.ofString "").length = 0 := by decide +kernel
  rw [e0]
  refine ⟨by simp; omega, ?_⟩
  rw [e_addS, str_app]
  refine ⟨by show Array.size _ + Array.size _ ≤ _; simp; omega, by omega, ?_⟩
  rw [e_addS, str_app]
  refine ⟨by show Array.size _ + Array.size _ ≤ _; simp; omega, retq_id ?_⟩
  rw [List.append_assoc]
  exact q
/-! ### sums that differ -/
theorem stp_rng (t : Int) (c : Nat) : 0 ≤ stp t c ∧ stp t c < 65521 := by unfold stp; omega
theorem sm_rng : ∀ (l : List Nat) (t : Int), 0 ≤ t → t < 65521 → 0 ≤ smL l t ∧ smL l t < 65521
  | [], t, h0, h1 => ⟨h0, h1⟩
  | c :: l, t, _, _ => sm_rng l (stp t c) (stp_rng t c).1 (stp_rng t c).2
theorem stp_inj {s t : Int} {c : Nat} (s0 : 0 ≤ s) (s1 : s < 65521) (t0 : 0 ≤ t) (t1 : t < 65521) (h : s ≠ t) : stp s c ≠ stp t c := by
  unfold stp
  split <;> omega
theorem sm_inj : ∀ (l : List Nat) {s t : Int}, 0 ≤ s → s < 65521 → 0 ≤ t → t < 65521 → s ≠ t → smL l s ≠ smL l t
  | [], s, t, _, _, _, _, h => h
  | c :: l, s, t, a, b, d, e, h => sm_inj l (stp_rng s c).1 (stp_rng s c).2 (stp_rng t c).1 (stp_rng t c).2 (stp_inj a b d e h)
theorem stp_fl {s : Int} {c : Nat} (h : bit c = true) : stp s (fl c) ≠ stp s c := by
  have : c = 48 ∨ c = 49 := by unfold bit at h; simpa using h
  unfold stp fl
  rcases this with rfl | rfl
  · simp; omega
  · simp; omega
theorem turn_end {l : List Nat} {k : Nat} (h : l.length ≤ k) : turn l k = l := by
  unfold turn
  rw [List.take_of_length_le h, List.drop_of_length_le h, List.drop_of_length_le (by omega)]
  simp
theorem turn_ne {l : List Nat} {k : Nat} (hb : l.all bit = true) (h : k < l.length) : smL (turn l k) 1 ≠ smL l 1 := by
  have hd : l.drop k = l[k] :: l.drop (k + 1) := List.drop_eq_getElem_cons h
  have e : l = l.take k ++ (l[k] :: l.drop (k + 1)) := by rw [← hd, List.take_append_drop]
  have e2 : turn l k = l.take k ++ (fl l[k] :: l.drop (k + 1)) := by
    unfold turn
    rw [hd]
    rfl
  have hc : bit l[k] = true := List.all_eq_true.mp hb _ (List.getElem_mem h)
  have a1 : smL (turn l k) 1 = smL (l.drop (k + 1)) (stp (smL (l.take k) 1) (fl l[k])) := by
    rw [e2]
    unfold smL
    rw [List.foldl_append, List.foldl_cons]
  have a2 : smL l 1 = smL (l.drop (k + 1)) (stp (smL (l.take k) 1) l[k]) := by
    conv => lhs; rw [e]
    unfold smL
    rw [List.foldl_append, List.foldl_cons]
  rw [a1, a2]
  exact sm_inj _ (stp_rng _ _).1 (stp_rng _ _).2 (stp_rng _ _).1 (stp_rng _ _).2 (stp_fl hc)
/-! ### shown -/
theorem log_small {n : Int} (h0 : 0 ≤ n) (h : n ≤ 1000000) : n.natAbs.log2 < 1920 := by
  by_cases hz : n.natAbs = 0
  · rw [hz]; decide
  · exact Nat.lt_of_lt_of_le ((Nat.log2_lt hz).mpr (show n.natAbs < 2 ^ 20 by omega)) (by decide)
theorem rp_int {n : Int} {M : Mp} {Q : TK} (h0 : 0 ≤ n) (h : n ≤ 1000000) (q : Q (.str (PyData.shown (.int n))) M) : repr1 [.int n] M Q := by
  rw [e_repr, e_toXi]
  have hl := log_small h0 h
  refine ⟨by simp [PyData.showable, hl], ?_, q⟩
  have := int_text_fits (a := n) hl
  simpa only [PyData.shown] using this
/-- what repr tells of t -/
structure Rp (M : Mp) (t : T) (d : PyData) : Prop where
  x : toX 40 M t = some d
  s : d.showable = true
  l : d.shown.length ≤ sizeLine
  o : okD d = true
theorem rp {M : Mp} {t : T} {d : PyData} {Q : TK} (r : Rp M t d) (q : Q (.str d.shown) M) : repr1 [t] M Q := by
  rw [e_repr, r.x]
  exact ⟨r.s, r.l, q⟩
theorem eq_lst {a b : Str} {M : Mp} {neg : Bool} {Q : TK} (ha : PyData.strOk a = true) (hb : PyData.strOk b = true) (q : Q (.bl (true ^^ neg)) M) : eq1 neg (.node .lst [.str a, .str b]) (.node .lst [.str a, .str b]) M Q := by
  unfold eq1
  simp only [eqS, toDM, toD, toDs]
  have sh : SeqAt.shaped (.list [.str a, .str b]) = true := by
    unfold SeqAt.shaped
    simp [PyData.canLay0, PyData.canLayAll0, ha, hb, PyData.depth, PyData.depthAll]
  refine ⟨sh, sh, ?_⟩
  have e : PyData.eqv (.list [.str a, .str b]) (.list [.str a, .str b]) = true := by simp [PyData.eqv, PyData.eqvAll]
  rw [e]
  exact q
theorem eq_lst1 {a : Str} {M : Mp} {neg : Bool} {Q : TK} (ha : PyData.strOk a = true) (q : Q (.bl (true ^^ neg)) M) : eq1 neg (.node .lst [.str a]) (.node .lst [.str a]) M Q := by
  unfold eq1
  simp only [eqS, toDM, toD, toDs]
  have sh : SeqAt.shaped (.list [.str a]) = true := by
    unfold SeqAt.shaped
    simp [PyData.canLay0, PyData.canLayAll0, ha, PyData.depth, PyData.depthAll]
  refine ⟨sh, sh, ?_⟩
  have e : PyData.eqv (.list [.str a]) (.list [.str a]) = true := by simp [PyData.eqv, PyData.eqvAll]
  rw [e]
  exact q
theorem w_found {t : T} {d : PyData} {M : Mp} {Q E : TK} (h : noSg M t) (r : Rp M t d) (q : Q (.node .lst [.str "signs", .str d.shown]) M) : sp__law_found [t] M Q E := by
  simp only [sp__law_found, t__law_found, TL.startT, e_own]
  refine ⟨rfl, ?_⟩
  simp [hit_NoSigns]
  refine w_sum_no h ?_
  simp
  intro a ha
  rw [r.x]
  refine ⟨r.s, r.l, by rw [sizeLine_eq]; decide, .inl ?_⟩
  simp
  exact retq_id q
theorem w_turned0 {y : Str} {M : Mp} {Q E : TK} (h : y.length = 0) (q : Q (.str ⟨#[]⟩) M) : sp__law_turned [.str y, .int (-1)] M Q E := by
  have e : y = ⟨#[]⟩ := by
    obtain ⟨c⟩ := y
    have : c.size = 0 := h
    have := Array.eq_empty_of_size_eq_zero this
    rw [this]
  subst e
  have c0 : ∀ lo hi, cutS (⟨#[]⟩ : Str) lo hi = ⟨#[]⟩ := fun lo hi => by unfold cutS; simp
  have hs := sizeLine_eq
  simp only [sp__law_turned, t__law_turned, TL.startT, e_own]
  refine ⟨rfl, ?_⟩
  simp [c0, signsT, allS]
  refine ⟨by omega, .inl ?_⟩
  simp [allS]
  have e0 : Txt.join (Str.ofString "") [] = (⟨#[]⟩ : Str) := join_ones []
  rw [e0]
  have ap : (⟨#[]⟩ : Str) ++ ⟨#[]⟩ = ⟨#[]⟩ := rfl
  refine ⟨by show 0 + 0 ≤ _; omega, by show 0 ≤ _; omega, ?_⟩
  rw [ap]
  exact ⟨by show 0 + 0 ≤ _; omega, retq_id q⟩
/-! ### the things told -/
theorem rt_len {y : Str} (ok : PyData.strOk y = true) : (reprText y).length ≤ 10 * y.length + 2 :=
  StrLaws.reprText_len y fun c hc => Nat.lt_of_lt_of_le (ok_iff.mp ok c hc) (by decide)
theorem rp_str {y : Str} {M : Mp} (ok : PyData.strOk y = true) (hl : y.length ≤ 1000) : Rp M (.str y) (.str y) := by
  have hs := sizeLine_eq
  have := rt_len ok
  exact ⟨by simp, rfl, by show (reprText y).length ≤ _; omega, ok⟩
theorem lt1 (t : Str) : (listText [t]).length = t.length + 2 := by
  have e : listText [t] = (Str.ofString "[" ++ Str.ofString "" ++ t) ++ Str.ofString "]" := rfl
  rw [e, strLen_append, strLen_append, strLen_append]
  have a : (Str.ofString "[").length = 1 := by decide +kernel
  have b : (Str.ofString "").length = 0 := by decide +kernel
  have c : (Str.ofString "]").length = 1 := by decide +kernel
  omega
theorem lt2 (t u : Str) : (listText [t, u]).length = t.length + u.length + 4 := by
  have e : listText [t, u] = (Str.ofString "[" ++ Str.ofString "" ++ t ++ Str.ofString ", " ++ u) ++ Str.ofString "]" := rfl
  rw [e, strLen_append, strLen_append, strLen_append, strLen_append, strLen_append]
  have a : (Str.ofString "[").length = 1 := by decide +kernel
  have b : (Str.ofString "").length = 0 := by decide +kernel
  have c : (Str.ofString "]").length = 1 := by decide +kernel
  have d : (Str.ofString ", ").length = 2 := by decide +kernel
  omega
theorem tt1 (t : Str) : (tupleText [t]).length = t.length + 3 := by
  have e : tupleText [t] = (Str.ofString "(" ++ t) ++ Str.ofString ",)" := rfl
  rw [e, strLen_append, strLen_append]
  have a : (Str.ofString "(").length = 1 := by decide +kernel
  have c : (Str.ofString ",)").length = 2 := by decide +kernel
  omega
theorem rp_l1 {y : Str} {M : Mp} (ok : PyData.strOk y = true) (hl : y.length ≤ 1000) : Rp M (.node .lst [.str y]) (.list [.str y]) := by
  have hs := sizeLine_eq
  have := rt_len ok
  refine ⟨by simp [toX, nodeX, allX], by simp [PyData.showable, PyData.showableAll], ?_, by simp [okD, okDs, ok]⟩
  show (listText [reprText y]).length ≤ _
  rw [lt1]
  omega
theorem rp_t1 {y : Str} {M : Mp} (ok : PyData.strOk y = true) (hl : y.length ≤ 1000) : Rp M (.node .tup [.str y]) (.tuple [.str y]) := by
  have hs := sizeLine_eq
  have := rt_len ok
  refine ⟨by simp [toX, nodeX, allX], by simp [PyData.showable, PyData.showableAll], ?_, by simp [okD, okDs, ok]⟩
  show (tupleText [reprText y]).length ≤ _
  rw [tt1]
  omega
theorem rp_o2 {p : Addr} {y z : Str} {M : Mp} (h : M p = some (.lst, [.str y, .str z])) (ok : PyData.strOk y = true) (ok2 : PyData.strOk z = true) (hl : y.length ≤ 1000) (hl2 : z.length ≤ 1000) : Rp M (.obj p) (.list [.str y, .str z]) := by
  have hs := sizeLine_eq
  have := rt_len ok
  have := rt_len ok2
  refine ⟨by simp [toX, nodeX, allX, h], by simp [PyData.showable, PyData.showableAll], ?_, by simp [okD, okDs, ok, ok2]⟩
  show (listText [reprText y, reprText z]).length ≤ _
  rw [lt2]
  omega
theorem rp_n {M : Mp} : Rp M .non .none := ⟨by simp, rfl, by decide +kernel, rfl⟩
theorem rp_0 {M : Mp} : Rp M (.int 0) (.int 0) := ⟨by simp, by decide +kernel, by decide +kernel, rfl⟩
theorem rp_b {M : Mp} : Rp M (.bl true) (.bool true) := ⟨by simp, rfl, by decide +kernel, rfl⟩
theorem rp_d {M : Mp} : Rp M (.node (.dic [.inr (Str.ofString "0")]) [.int 1]) (.dict [(.str (Str.ofString "0"), .int 1)]) := by
  refine ⟨?_, by decide +kernel, by decide +kernel, by decide +kernel⟩
  have hk : ([Sum.inr (Str.ofString "0")] : List Key).all okK = true := by decide +kernel
  simp only [toX, nodeX, allX, hk, if_true, e_toXi, Option.map_some, List.map_cons, List.map_nil, keyD, List.zip_cons_cons, List.zip_nil_left]
theorem bits_ok {y : Str} (h : bits y) : PyData.strOk y = true := by
  rw [ok_iff]
  intro c hc
  have := List.all_eq_true.mp h c hc
  unfold bit at this
  have : c = 48 ∨ c = 49 := by simpa using this
  omega
theorem w_box {c : Int} {M : Mp} {Q E : TK} (k : ∀ p M', M p = none → Box M' p 0 → Q (.obj p) M') : sp__law_box [.int c] M Q E := by
  simp only [sp__law_box, t__law_box, TL.startT, e_own]
  refine ⟨rfl, ?_⟩
  simp [CPow]
  refine ⟨by rw [sizeLine_eq]; decide, .inr fun p hp => retq_id (k p _ hp ⟨_, _, _, updM_same, ?_, by omega, by omega, by omega, by omega⟩)⟩
  split <;> omega
theorem w_cell {ns : List Int} {k : Int} {M : Mp} {Q E : TK} (h0 : 0 ≤ k) (q : ∀ c, Q (.int c) M) : sp__law_cell [.node .lst (ns.map T.int), .int k] M Q E := by
  simp only [sp__law_cell, t__law_cell, TL.startT, e_own]
  refine ⟨rfl, ?_⟩
  simp
  by_cases h : k < ns.length
  · rw [if_pos h]
    have e : (ns.map T.int)[k.toNat]? = some (.int (ns[k.toNat]'(by omega))) := by
      rw [List.getElem?_map, List.getElem?_eq_getElem (by omega)]
      rfl
    have := at_nat e
    rw [Int.toNat_of_nonneg h0] at this
    rw [this]
    exact retq_id (q _)
  · rw [if_neg h]
    exact ⟨.inl (.inl (by omega)), retq_id (q _)⟩
theorem sg8 {d : Int} (h0 : 0 ≤ d) (h1 : d < 8) : ∃ c, bit c = false ∧ c < 200 ∧ L2.atI (Str.ofString "2 aoO-I\n").cps.toList d = some c := by
  have e : (Str.ofString "2 aoO-I\n").cps.toList = [50, 32, 97, 111, 79, 45, 73, 10] := by decide +kernel
  rw [e]
  have : d = 0 ∨ d = 1 ∨ d = 2 ∨ d = 3 ∨ d = 4 ∨ d = 5 ∨ d = 6 ∨ d = 7 := by omega
  rcases this with rfl | rfl | rfl | rfl | rfl | rfl | rfl | rfl
  · exact ⟨50, by decide, by omega, rfl⟩
  · exact ⟨32, by decide, by omega, rfl⟩
  · exact ⟨97, by decide, by omega, rfl⟩
  · exact ⟨111, by decide, by omega, rfl⟩
  · exact ⟨79, by decide, by omega, rfl⟩
  · exact ⟨45, by decide, by omega, rfl⟩
  · exact ⟨73, by decide, by omega, rfl⟩
  · exact ⟨10, by decide, by omega, rfl⟩
theorem lp_twice {y : Str} (hb : bits y) (items : List T) {D : TEnds} {w0 w1 : Option T} {r : List (Option T)} {M : Mp} : ∀ o : Option T, (∀ o, D.nx (w0 :: w1 :: some (.str y) :: some (.int (sm y)) :: o :: r) M) →
    forR (fun _ => True) (gName1 4) b__law_case_1 D items (w0 :: w1 :: some (.str y) :: some (.int (sm y)) :: o :: r) M := by
  have hr := sm_rng y.cps.toList 1 (by omega) (by omega)
  induction items with
  | nil => intro o h; simp; exact h o
  | cons t ts ih =>
    intro o h
    simp only [e_forc, e_gName, b__law_case_1, e_if, e_bl, e_op, e_cb, e_cons, e_nil, e_call, e_var, List.set_cons_succ, List.set_cons_zero, List.getElem?_cons_succ, List.getElem?_cons_zero, List.append_nil, true_and]
    refine w_sum hb (rp_int hr.1 (Int.le_of_lt (Int.lt_of_lt_of_le hr.2 (by decide))) (rp_int hr.1 (Int.le_of_lt (Int.lt_of_lt_of_le hr.2 (by decide))) ?_))
    rw [e_eqS]
    simp
    exact ih _ h
theorem w_last {y : Str} {M : Mp} {Q E : TK} (hy : bits y) (hl : y.length ≤ 250) (q : ∀ z, bits z → (y.length ≠ 0 → sm z ≠ sm y) → Q (.str z) M) : sp__law_turned [.str y, .int ((y.length : Int) - 1)] M Q E := by
  have hl1 : y.cps.toList.length = y.length := rfl
  by_cases h : y.length = 0
  · have e : ((y.length : Int) - 1) = -1 := by omega
    rw [e]
    exact w_turned0 h (q _ rfl fun z => absurd h z)
  · have e : ((y.length : Int) - 1) = ((y.length - 1 : Nat) : Int) := by omega
    rw [e]
    refine w_turned hy hl (by omega) (q _ ?_ fun _ => ?_)
    · unfold bits; simpa using turn_bits hy
    · have := turn_ne hy (k := y.length - 1) (by rw [hl1]; omega)
      unfold sm
      simpa using this
theorem bits0 {y : Str} (h : bits y) : bits (Str.ofString "0" ++ y) := by
  have e : Str.ofString "0" = ⟨[48].toArray⟩ := by decide +kernel
  have e2 : y = ⟨y.cps.toList.toArray⟩ := by cases y; simp
  rw [e, e2, str_app]
  unfold bits at *
  simp only [List.toList_toArray] at *
  rw [List.all_append, h]; rfl
theorem sg_mid {M : Mp} {l1 l2 : List Nat} {c : Nat} (h : bit c = false) : noSg M (.str ⟨(l1 ++ [c] ++ l2).toArray⟩) := by
  refine .inl ⟨_, rfl, ?_⟩
  simp only [List.toList_toArray]
  rw [List.all_append, List.all_append]
  have : [c].all bit = false := by simp [h]
  rw [this]
  simp
theorem ok_mid {l1 l2 : List Nat} {c : Nat} (h1 : l1.all bit = true) (h2 : l2.all bit = true) (hc : c < 200) : PyData.strOk (⟨(l1 ++ [c] ++ l2).toArray⟩ : Str) = true := by
  rw [ok_iff]
  intro x hx
  simp only [List.toList_toArray] at hx
  have bb : ∀ {l : List Nat}, l.all bit = true → x ∈ l → x < 0x110000 := fun {l} hl hm => by
    have := List.all_eq_true.mp hl x hm
    unfold bit at this
    have : x = 48 ∨ x = 49 := by simpa using this
    omega
  rcases List.mem_append.mp hx with h | h
  · rcases List.mem_append.mp h with h | h
    · exact bb h1 h
    · have : x = c := by simpa using h
      omega
  · exact bb h2 h
theorem thing {M : Mp} {y : Str} {a : Nat} {c : Nat} {way : Int} (hy : bits y) (hl : y.length ≤ 250) (ha : a ≤ y.length) (hc : bit c = false) (hc2 : c < 200) (w0 : 0 ≤ way) (w1 : way < 8) :
    ∃ t d, L2.atI [T.str (cutS y none (some (a : Int)) ++ ⟨#[c]⟩ ++ cutS y (some (a : Int)) none), .str (y ++ ⟨#[c]⟩), .node .lst [.str y], .non, .int 0, .bl true, .node .tup [.str y], .node (.dic [.inr (Str.ofString "0")]) [.int 1]] way = some t ∧ noSg M t ∧ Rp M t d := by
  have ok := bits_ok hy
  have hl1 : y.cps.toList.length = y.length := rfl
  have e1 : (⟨#[c]⟩ : Str) = ⟨[c].toArray⟩ := rfl
  have e2 : y ++ (⟨#[c]⟩ : Str) = ⟨(y.cps.toList ++ [c] ++ []).toArray⟩ := by
    have e2 : y = ⟨y.cps.toList.toArray⟩ := by cases y; simp
    rw [e1]
    conv => lhs; rw [e2]
    rw [str_app]
    simp
  have w : way = 0 ∨ way = 1 ∨ way = 2 ∨ way = 3 ∨ way = 4 ∨ way = 5 ∨ way = 6 ∨ way = 7 := by omega
  rcases w with rfl | rfl | rfl | rfl | rfl | rfl | rfl | rfl
  · rw [cut_lo y a ha, cut_hi y a, e1, str_app, str_app]
    exact ⟨_, _, rfl, sg_mid hc, rp_str (ok_mid (all_take hy) (all_drop hy) hc2) (by show Array.size _ ≤ _; simp only [List.size_toArray, List.length_append, List.length_cons, List.length_nil, List.length_take, List.length_drop]; omega)⟩
  · rw [e2]
    exact ⟨_, _, rfl, sg_mid hc, rp_str (ok_mid hy rfl hc2) (by show Array.size _ ≤ _; simp only [List.size_toArray, List.length_append, List.length_cons, List.length_nil]; omega)⟩
  · exact ⟨_, _, rfl, .inr ⟨"list", rfl, by decide, by decide⟩, rp_l1 ok (by omega)⟩
  · exact ⟨_, _, rfl, .inr ⟨"NoneType", rfl, by decide, by decide⟩, rp_n⟩
  · exact ⟨_, _, rfl, .inr ⟨"int", rfl, by decide, by decide⟩, rp_0⟩
  · exact ⟨_, _, rfl, .inr ⟨"bool", rfl, by decide, by decide⟩, rp_b⟩
  · exact ⟨_, _, rfl, .inr ⟨"tuple", rfl, by decide, by decide⟩, rp_t1 ok (by omega)⟩
  · exact ⟨_, _, rfl, .inr ⟨"dict", rfl, by decide, by decide⟩, rp_d⟩
end K25

set_option linter.all false
set_option maxRecDepth 100000
namespace K25
open PySem PySem.Spec PyProof.Rows L2 TL
section
variable {D : TEnds} {b : Addr} {M : Mp} {o w0 w1 w3 w4 w5 w6 w7 w8 w9 : Option T} {r : List (Option T)} {n : Nat} {y : Str}
theorem q1 (hb : Box M b n) (hn : n ≤ 1000) (k : ∀ way M', 0 ≤ way → way < 8 → Box M' b (n + 1) → D.nx (some (.obj b) :: some (.int way) :: r) M') : a__law_case_1 D (some (.obj b) :: o :: r) M := by
  simp only [a__law_case_1, e_seq, e_asg, e_if, e_or, e_and, e_bl, e_call, e_cons, e_nil, e_c, e_var, e_gName, e_op, e_cb, e_lst, e_tup, e_sl, e_noP, e_part, e_slS, e_addS, e_addI, e_subI, e_lenS, e_drop, e_ret, e_next, List.append_nil, List.getElem?_cons_zero, List.getElem?_cons_succ, List.set_cons_zero, List.set_cons_succ]
  exact w_take hb (by omega) (by omega) (by decide) fun d M' d0 d1 h _ => k d M' d0 d1 h
theorem q2 (hb : Box M b n) (hn : n ≤ 1000) (k : ∀ y M', bits y → y.length ≤ 250 → Box M' b (n + 300) → D.nx (some (.obj b) :: w1 :: some (.str y) :: r) M') : a__law_case_2 D (some (.obj b) :: w1 :: o :: r) M := by
  simp only [a__law_case_2, e_seq, e_asg, e_if, e_or, e_and, e_bl, e_call, e_cons, e_nil, e_c, e_var, e_gName, e_op, e_cb, e_lst, e_tup, e_sl, e_noP, e_part, e_slS, e_addS, e_addI, e_subI, e_lenS, e_drop, e_ret, e_next, List.append_nil, List.getElem?_cons_zero, List.getElem?_cons_succ, List.set_cons_zero, List.set_cons_succ]
  exact w_signs hb (by omega) fun y M' h1 h2 h3 _ => k y M' h1 h2 h3
theorem q3 (k : D.nx (w0 :: w1 :: some (.str y) :: some (.int (sm y)) :: r) M) : a__law_case_3 D (w0 :: w1 :: some (.str y) :: o :: r) M := by
  simp only [a__law_case_3, e_seq, e_asg, e_if, e_or, e_and, e_bl, e_call, e_cons, e_nil, e_c, e_var, e_gName, e_op, e_cb, e_lst, e_tup, e_sl, e_noP, e_part, e_slS, e_addS, e_addI, e_subI, e_lenS, e_drop, e_ret, e_next, List.append_nil, List.getElem?_cons_zero, List.getElem?_cons_succ, List.set_cons_zero, List.set_cons_succ]
  exact w_lsum k
theorem q4 (hy : bits y) (k : ∀ o, D.nx (w0 :: w1 :: some (.str y) :: some (.int (sm y)) :: o :: r) M) : a__law_case_4 D (w0 :: w1 :: some (.str y) :: some (.int (sm y)) :: o :: r) M := by
  simp only [a__law_case_4, e_for, e_rgA, e_seq, e_asg, e_if, e_or, e_and, e_bl, e_call, e_cons, e_nil, e_c, e_var, e_gName, e_op, e_cb, e_lst, e_tup, e_sl, e_noP, e_part, e_slS, e_addS, e_addI, e_subI, e_lenS, e_drop, e_ret, e_next, List.append_nil, List.getElem?_cons_zero, List.getElem?_cons_succ, List.set_cons_zero, List.set_cons_succ]
  exact ⟨by omega, lp_twice hy _ o k⟩
theorem q5 (hb : Box M b n) (hn : n ≤ 1000) (hl : y.length ≤ 250) (k : ∀ (a : Nat) M', a ≤ y.length → Box M' b (n + 1) → D.nx (some (.obj b) :: w1 :: some (.str y) :: w3 :: w4 :: some (.int (a : Int)) :: r) M') : a__law_case_5 D (some (.obj b) :: w1 :: some (.str y) :: w3 :: w4 :: o :: r) M := by
  have hs := sizeLine_eq
  simp only [a__law_case_5, e_seq, e_asg, e_if, e_or, e_and, e_bl, e_call, e_cons, e_nil, e_c, e_var, e_gName, e_op, e_cb, e_lst, e_tup, e_sl, e_noP, e_part, e_slS, e_addS, e_addI, e_subI, e_lenS, e_drop, e_ret, e_next, List.append_nil, List.getElem?_cons_zero, List.getElem?_cons_succ, List.set_cons_zero, List.set_cons_succ]
  refine ⟨by omega, w_take hb (by omega) (by omega) (Nat.lt_of_le_of_lt (Nat.log2_le_self _) (by omega)) fun d M' d0 d1 h _ => ?_⟩
  obtain ⟨a, rfl⟩ : ∃ a : Nat, d = (a : Int) := ⟨d.toNat, by omega⟩
  exact k a M' (by omega) h
def Oth (y other : Str) : Prop := bits other ∧ decide (sm other = sm y) = decide (other = y)
theorem q6 {a : Nat} (hy : bits y) (hl : y.length ≤ 250) (ha : a ≤ y.length) (k : ∀ z, Oth y z → D.nx (w0 :: w1 :: some (.str y) :: w3 :: w4 :: some (.int (a : Int)) :: some (.str z) :: r) M) : a__law_case_6 D (w0 :: w1 :: some (.str y) :: w3 :: w4 :: some (.int (a : Int)) :: o :: r) M := by
  simp only [a__law_case_6, e_seq, e_asg, e_if, e_or, e_and, e_bl, e_call, e_cons, e_nil, e_c, e_var, e_gName, e_op, e_cb, e_lst, e_tup, e_sl, e_noP, e_part, e_slS, e_addS, e_addI, e_subI, e_lenS, e_drop, e_ret, e_next, List.append_nil, List.getElem?_cons_zero, List.getElem?_cons_succ, List.set_cons_zero, List.set_cons_succ]
  refine w_turned hy hl ha (k _ ⟨by unfold bits; simpa using turn_bits hy, ?_⟩)
  have hl1 : y.cps.toList.length = y.length := rfl
  have hso : sm (⟨(turn y.cps.toList a).toArray⟩ : Str) = smL (turn y.cps.toList a) 1 := by unfold sm; simp
  by_cases ha : a < y.length
  · have hn := turn_ne hy (k := a) (by rw [hl1]; exact ha)
    have h1 : ¬ sm (⟨(turn y.cps.toList a).toArray⟩ : Str) = sm y := by rw [hso]; exact hn
    have h2 : ¬ (⟨(turn y.cps.toList a).toArray⟩ : Str) = y := fun e => h1 (by rw [e])
    rw [decide_eq_false h1, decide_eq_false h2]
  · have e := turn_end (l := y.cps.toList) (k := a) (by rw [hl1]; omega)
    have h2 : (⟨(turn y.cps.toList a).toArray⟩ : Str) = y := by rw [e]
    rw [h2]
    simp
theorem q7 {z : Str} (hz : Oth y z) (k : D.nx (w0 :: w1 :: some (.str y) :: some (.int (sm y)) :: w4 :: w5 :: some (.str z) :: r) M) : a__law_case_7 D (w0 :: w1 :: some (.str y) :: some (.int (sm y)) :: w4 :: w5 :: some (.str z) :: r) M := by
  obtain ⟨hob, hiff⟩ := hz
  have hro : 0 ≤ sm z ∧ sm z < 65521 := sm_rng z.cps.toList 1 (by omega) (by omega)
  simp only [a__law_case_7, e_seq, e_asg, e_if, e_or, e_and, e_bl, e_call, e_cons, e_nil, e_c, e_var, e_gName, e_op, e_cb, e_lst, e_tup, e_sl, e_noP, e_part, e_slS, e_addS, e_addI, e_subI, e_lenS, e_drop, e_ret, e_next, List.append_nil, List.getElem?_cons_zero, List.getElem?_cons_succ, List.set_cons_zero, List.set_cons_succ]
  refine w_sum hob (rp_int hro.1 (by omega) (w_lsum (rp_int hro.1 (by omega) ?_)))
  rw [e_eqS, e_blk]
  simp only [decide_true, Bool.xor_self, Bool.true_xor, Bool.not_true, Bool.false_eq_true, if_false]
  refine w_sum hob ?_
  rw [e_eqI, e_eqS, e_eqB, e_blk, hiff]
  simp only [decide_true, Bool.xor_false, Bool.xor_self, Bool.true_xor, Bool.not_true, Bool.false_eq_true, if_false, e_next]
  exact k
theorem q8 (hy : bits y) (hl : y.length ≤ 250) (k : ∀ z, bits z → (y.length ≠ 0 → sm z ≠ sm y) → D.nx (w0 :: w1 :: some (.str y) :: w3 :: w4 :: w5 :: w6 :: some (.str z) :: r) M) : a__law_case_8 D (w0 :: w1 :: some (.str y) :: w3 :: w4 :: w5 :: w6 :: o :: r) M := by
  have hs := sizeLine_eq
  simp only [a__law_case_8, e_seq, e_asg, e_if, e_or, e_and, e_bl, e_call, e_cons, e_nil, e_c, e_var, e_gName, e_op, e_cb, e_lst, e_tup, e_sl, e_noP, e_part, e_slS, e_addS, e_addI, e_subI, e_lenS, e_drop, e_ret, e_next, List.append_nil, List.getElem?_cons_zero, List.getElem?_cons_succ, List.set_cons_zero, List.set_cons_succ]
  exact ⟨by omega, w_last hy hl k⟩
theorem q9 {z : Str} (hy : bits y) (hl : y.length ≤ 250) (hz : bits z) (hz2 : y.length ≠ 0 → sm z ≠ sm y) (k : D.nx (w0 :: w1 :: some (.str y) :: some (.int (sm y)) :: w4 :: w5 :: w6 :: some (.str z) :: r) M) : a__law_case_9 D (w0 :: w1 :: some (.str y) :: some (.int (sm y)) :: w4 :: w5 :: w6 :: some (.str z) :: r) M := by
  have hs := sizeLine_eq
  have b0 := bits0 hy
  have hr0 : 0 ≤ sm (Str.ofString "0" ++ y) ∧ sm (Str.ofString "0" ++ y) < 65521 := sm_rng (Str.ofString "0" ++ y).cps.toList 1 (by omega) (by omega)
  have l0 : (Str.ofString "0").length = 1 := by decide +kernel
  simp only [a__law_case_9, e_eqS, e_blk, e_seq, e_asg, e_if, e_or, e_and, e_bl, e_call, e_cons, e_nil, e_c, e_var, e_gName, e_op, e_cb, e_lst, e_tup, e_sl, e_noP, e_part, e_slS, e_addS, e_addI, e_subI, e_lenS, e_drop, e_ret, e_next, List.append_nil, List.getElem?_cons_zero, List.getElem?_cons_succ, List.set_cons_zero, List.set_cons_succ]
  by_cases h0 : y = Str.ofString ""
  · rw [decide_eq_true h0]
    simp only [Bool.xor_self, Bool.false_eq_true, if_false]
    refine ⟨by omega, w_sum b0 (rp_int hr0.1 (by omega) ?_)⟩
    refine ⟨by omega, w_lsum (rp_int hr0.1 (by omega) ?_)⟩
    rw [e_eqS, e_blk]
    simpa using k
  · rw [decide_eq_false h0]
    simp only [Bool.xor_true, Bool.not_false, if_true]
    refine w_sum hz ?_
    have hn : y.length ≠ 0 := fun e => h0 (by
      obtain ⟨c⟩ := y
      have : c.size = 0 := e
      have := Array.eq_empty_of_size_eq_zero this
      rw [this]
      decide +kernel)
    rw [e_eqI, e_blk, decide_eq_false (hz2 hn)]
    simp only [Bool.xor_false, Bool.false_eq_true, if_false]
    refine ⟨by omega, w_sum b0 (rp_int hr0.1 (by omega) ?_)⟩
    refine ⟨by omega, w_lsum (rp_int hr0.1 (by omega) ?_)⟩
    rw [e_eqS, e_blk]
    simpa using k
theorem q10 (hb : Box M b n) (hn : n ≤ 1000) (k : ∀ c M', bit c = false → c < 200 → D.nx (some (.obj b) :: w1 :: some (.str y) :: w3 :: w4 :: w5 :: w6 :: w7 :: some (.str ⟨#[c]⟩) :: r) M') : a__law_case_10 D (some (.obj b) :: w1 :: some (.str y) :: w3 :: w4 :: w5 :: w6 :: w7 :: o :: r) M := by
  simp only [a__law_case_10, e_seq, e_asg, e_if, e_or, e_and, e_bl, e_call, e_cons, e_nil, e_c, e_var, e_gName, e_op, e_cb, e_lst, e_tup, e_sl, e_noP, e_part, e_slS, e_addS, e_addI, e_subI, e_lenS, e_drop, e_ret, e_next, List.append_nil, List.getElem?_cons_zero, List.getElem?_cons_succ, List.set_cons_zero, List.set_cons_succ]
  refine w_take hb (by omega) (by omega) (by decide) fun sd M4 s0 s1 hb4 f4 => ?_
  obtain ⟨c, hc, hc2, hce⟩ := sg8 s0 s1
  have l8 : (Str.ofString "2 aoO-I\n").length ≤ sizeLine := by decide +kernel
  rw [e_ixS, hce]
  exact ⟨l8, k c M4 hc hc2⟩
theorem q11 {a c : Nat} {way : Int} (hy : bits y) (hl : y.length ≤ 250) (ha : a ≤ y.length) (hc : bit c = false) (hc2 : c < 200) (h0 : 0 ≤ way) (h1 : way < 8) (k : ∀ t d, noSg M t → Rp M t d → D.nx (w0 :: some (.int way) :: some (.str y) :: w3 :: w4 :: some (.int (a : Int)) :: w6 :: w7 :: some (.str ⟨#[c]⟩) :: some t :: r) M) :
    a__law_case_11 D (w0 :: some (.int way) :: some (.str y) :: w3 :: w4 :: some (.int (a : Int)) :: w6 :: w7 :: some (.str ⟨#[c]⟩) :: o :: r) M := by
  have hs := sizeLine_eq
  have hl1 : y.cps.toList.length = y.length := rfl
  obtain ⟨t, d, ht, hn, hrp⟩ := thing (M := M) hy hl ha hc hc2 h0 h1
  have c1 : (⟨#[c]⟩ : Str).length = 1 := rfl
  have k1 : (cutS y none (some (a : Int))).length ≤ 250 := by rw [cut_lo y a ha]; show Array.size _ ≤ _; simp only [List.size_toArray, List.length_take]; omega
  have k2 : (cutS y (some (a : Int)) none).length ≤ 250 := by rw [cut_hi y a]; show Array.size _ ≤ _; simp only [List.size_toArray, List.length_drop]; omega
  have k3 : (cutS y none (some (a : Int)) ++ (⟨#[c]⟩ : Str)).length = (cutS y none (some (a : Int))).length + 1 := by rw [strLen_append]; rfl
  simp only [a__law_case_11, e_seq, e_asg, e_if, e_or, e_and, e_bl, e_call, e_cons, e_nil, e_c, e_var, e_gName, e_op, e_cb, e_lst, e_tup, e_sl, e_noP, e_part, e_slS, e_addS, e_addI, e_subI, e_lenS, e_drop, e_ret, e_next, List.append_nil, List.getElem?_cons_zero, List.getElem?_cons_succ, List.set_cons_zero, List.set_cons_succ]
  refine ⟨by omega, by omega, by omega, by omega, by omega, by show 1 ≤ _; omega, .inl ?_⟩
  refine ⟨by show 1 ≤ _; omega, ?_⟩
  simp only [tDic, tPs1, e_c, allK, keyT]
  refine ⟨by simp, by simp, .inl ?_⟩
  refine ⟨by show 8 ≤ _; omega, .inl ?_⟩
  dsimp only
  rw [e_ixL, ht]
  exact k t d hn hrp
theorem q12 {t : T} {d : PyData} (hn : noSg M t) (hrp : Rp M t d) (k : D.nx (w0 :: w1 :: some (.str y) :: w3 :: w4 :: w5 :: w6 :: w7 :: w8 :: some t :: r) M) : a__law_case_12 D (w0 :: w1 :: some (.str y) :: w3 :: w4 :: w5 :: w6 :: w7 :: w8 :: some t :: r) M := by
  simp only [a__law_case_12, e_seq, e_asg, e_if, e_or, e_and, e_bl, e_call, e_cons, e_nil, e_c, e_var, e_gName, e_op, e_cb, e_lst, e_tup, e_sl, e_noP, e_part, e_slS, e_addS, e_addI, e_subI, e_lenS, e_drop, e_ret, e_next, List.append_nil, List.getElem?_cons_zero, List.getElem?_cons_succ, List.set_cons_zero, List.set_cons_succ]
  refine w_found hn hrp (rp hrp ⟨by show 2 ≤ _; rw [sizeLine_eq]; omega, .inl ?_⟩)
  refine eq_lst (by decide +kernel) (ok_shown d hrp.o) ?_
  simp only [e_blk, Bool.xor_self, Bool.false_eq_true, if_false, e_next]
  exact k
theorem q13 (k : ∀ p, D.nx (w0 :: w1 :: some (.str y) :: w3 :: w4 :: w5 :: w6 :: w7 :: w8 :: w9 :: some (.obj p) :: r) (updM M p (.lst, [.str y]))) : a__law_case_13 D (w0 :: w1 :: some (.str y) :: w3 :: w4 :: w5 :: w6 :: w7 :: w8 :: w9 :: o :: r) M := by
  simp only [a__law_case_13, e_seq, e_asg, e_if, e_or, e_and, e_bl, e_call, e_cons, e_nil, e_c, e_var, e_gName, e_op, e_cb, e_lst, e_tup, e_sl, e_noP, e_part, e_slS, e_addS, e_addI, e_subI, e_lenS, e_drop, e_ret, e_next, List.append_nil, List.getElem?_cons_zero, List.getElem?_cons_succ, List.set_cons_zero, List.set_cons_succ]
  exact ⟨by show 1 ≤ _; rw [sizeLine_eq]; omega, .inr fun p _ => k p⟩
theorem q14 {w10 : Option T} (k : ∀ c, D.nx (w0 :: w1 :: some (.str y) :: w3 :: w4 :: w5 :: w6 :: w7 :: w8 :: w9 :: w10 :: c :: r) M) : a__law_case_14 D (w0 :: w1 :: some (.str y) :: w3 :: w4 :: w5 :: w6 :: w7 :: w8 :: w9 :: w10 :: o :: r) M := by
  simp only [a__law_case_14, e_seq, e_asg, e_if, e_or, e_and, e_bl, e_call, e_cons, e_nil, e_c, e_var, e_gName, e_op, e_cb, e_lst, e_tup, e_sl, e_noP, e_part, e_slS, e_addS, e_addI, e_subI, e_lenS, e_drop, e_ret, e_next, List.append_nil, List.getElem?_cons_zero, List.getElem?_cons_succ, List.set_cons_zero, List.set_cons_succ]
  exact ⟨by rw [sizeLine_eq]; decide, .inl (k _)⟩
theorem q15 {p : Addr} {o1 o2 : Option T} (hp : M p = some (.lst, [.str y])) (k : ∀ e, D.nx (w0 :: w1 :: some (.str y) :: w3 :: w4 :: w5 :: w6 :: w7 :: w8 :: w9 :: some (.obj p) :: some (.node .lst [.obj p]) :: e :: r) M) :
    a__law_case_15 D (w0 :: w1 :: some (.str y) :: w3 :: w4 :: w5 :: w6 :: w7 :: w8 :: w9 :: some (.obj p) :: o1 :: o2 :: r) M := by
  simp only [a__law_case_15, e_try, e_seq, e_asg, e_if, e_or, e_and, e_bl, e_call, e_cons, e_nil, e_c, e_var, e_gName, e_op, e_cb, e_lst, e_tup, e_sl, e_noP, e_part, e_slS, e_addS, e_addI, e_subI, e_lenS, e_drop, e_ret, e_next, List.append_nil, List.getElem?_cons_zero, List.getElem?_cons_succ, List.set_cons_zero, List.set_cons_succ]
  refine w_sum_no (.inr ⟨"list", by simp [tyN, hp], by decide, by decide⟩) ?_
  simp only [e_dex, e_tryxc, hit_NoSigns, e_lose1, e_put1, e_exf, e_seq, e_asg, e_if, e_or, e_and, e_bl, e_call, e_cons, e_nil, e_c, e_var, e_gName, e_op, e_cb, e_lst, e_tup, e_sl, e_noP, e_part, e_slS, e_addS, e_addI, e_subI, e_lenS, e_drop, e_ret, e_next, List.append_nil, List.getElem?_cons_zero, List.getElem?_cons_succ, List.set_cons_zero, List.set_cons_succ]
  intro a _
  refine ⟨trivial, ?_⟩
  simp only [List.zip_cons_cons, List.zip_nil_left, lk_same]
  exact ⟨by show 1 ≤ _; rw [sizeLine_eq]; omega, .inl (k _)⟩
theorem q16 {p : Addr} (hp : M p = some (.lst, [.str y])) (k : D.nx (w0 :: w1 :: some (.str y) :: w3 :: w4 :: w5 :: w6 :: w7 :: w8 :: w9 :: some (.obj p) :: r) (updM M p (.lst, [.str y, .str (Str.ofString "more")]))) :
    a__law_case_16 D (w0 :: w1 :: some (.str y) :: w3 :: w4 :: w5 :: w6 :: w7 :: w8 :: w9 :: some (.obj p) :: r) M := by
  simp only [a__law_case_16, e_bm, e_appO, hp, e_seq, e_asg, e_if, e_or, e_and, e_bl, e_call, e_cons, e_nil, e_c, e_var, e_gName, e_op, e_cb, e_lst, e_tup, e_sl, e_noP, e_part, e_slS, e_addS, e_addI, e_subI, e_lenS, e_drop, e_ret, e_next, List.append_nil, List.getElem?_cons_zero, List.getElem?_cons_succ, List.set_cons_zero, List.set_cons_succ]
  exact ⟨by simp [tyT, rdL, hp], by show 1 < _; rw [sizeLine_eq]; omega, k⟩
theorem q17 {p : Addr} {e one : Option T} (hy : bits y) (hl : y.length ≤ 250) (hp : M p = some (.lst, [.str y, .str (Str.ofString "more")])) (k : ∀ M', D.rt (.bl true) M') :
    a__law_case_17 D [w0, w1, some (.str y), w3, w4, w5, w6, w7, w8, w9, some (.obj p), some (.node .lst [.obj p]), e, one] M := by
  have hs := sizeLine_eq
  have hrp := rp_o2 hp (bits_ok hy) (by decide +kernel) (by omega) (by decide +kernel)
  have os := ok_shown _ hrp.o
  simp only [a__law_case_17, e_lc, e_sq, e_rdSl, e_wipe1, e_wipe0, e_lcc, e_lc0, e_tgt, e_yes, c__law_case_2, e_seq, e_asg, e_if, e_or, e_and, e_bl, e_call, e_cons, e_nil, e_c, e_var, e_gName, e_op, e_cb, e_lst, e_tup, e_sl, e_noP, e_part, e_slS, e_addS, e_addI, e_subI, e_lenS, e_drop, e_ret, e_next, List.append_nil, List.getElem?_cons_zero, List.getElem?_cons_succ, List.set_cons_zero, List.set_cons_succ]
  refine ⟨rfl, ?_⟩
  rw [if_pos trivial]
  refine rp hrp ⟨by show 0 < _; omega, rfl, .inl ?_⟩
  refine rp hrp ⟨by show 1 ≤ _; omega, .inl ?_⟩
  exact eq_lst1 os (k _)
end
theorem seq_of {t u : TS1} {D : TEnds} {τ : TSt} {M : Mp} (h : t { D with nx := u D } τ M) : tSeq1 t u D τ M := h
theorem to_nx {D : TEnds} {f : TSt → Mp → Prop} {τ : TSt} {M : Mp} (h : f τ M) : ({ D with nx := f } : TEnds).nx τ M := h
theorem own_of {N : List Str} {n : Nat} {t : TS1} {ts : List T} {M : Mp} {Q E : TK} {τ : TSt} (hl : ts.length = n) (e : TL.startT N ts = τ) (h : t (endsOf Q E) τ M) : ownSp N n t ts M Q E := ⟨hl, by rw [e]; exact h⟩
theorem w_case {b : Addr} {M : Mp} {Q E : TK} (hb : Box M b 0) (k : ∀ M', Q (.bl true) M') : sp__law_case [.obj b] M Q E := by
  unfold sp__law_case
  refine own_of (τ := [some (.obj b), none, none, none, none, none, none, none, none, none, none, none, none, none]) rfl rfl ?_
  unfold t__law_case
  refine seq_of (q1 hb (by omega) fun way M1 w0 w1 hb1 => ?_)
  refine to_nx (seq_of (q2 hb1 (by omega) fun y M2 hy hl hb2 => ?_))
  refine to_nx (seq_of (q3 ?_))
  refine to_nx (seq_of (q4 hy fun o4 => ?_))
  refine to_nx (seq_of (q5 hb2 (by omega) hl fun a M3 ha hb3 => ?_))
  refine to_nx (seq_of (q6 hy hl ha fun z hz => ?_))
  refine to_nx (seq_of (q7 hz ?_))
  refine to_nx (seq_of (q8 hy hl fun z2 h1 h2 => ?_))
  refine to_nx (seq_of (q9 hy hl h1 h2 ?_))
  refine to_nx (seq_of (q10 hb3 (by omega) fun c M4 hc hc2 => ?_))
  refine to_nx (seq_of (q11 hy hl ha hc hc2 w0 w1 fun t d hn hrp => ?_))
  refine to_nx (seq_of (q12 hn hrp ?_))
  refine to_nx (seq_of (q13 fun p => ?_))
  refine to_nx (seq_of (q14 fun c => ?_))
  refine to_nx (seq_of (q15 updM_same fun e => ?_))
  refine to_nx (seq_of (q16 updM_same ?_))
  refine to_nx ?_
  rw [updM_upd]
  exact q17 hy hl updM_same fun M' => retq_id (k M')
theorem lp_law {ns : List Int} : ∀ (items : List T), (∀ t ∈ items, ∃ k : Int, 0 ≤ k ∧ t = .int k) → ∀ (D : TEnds) (o : Option T) (M : Mp), (∀ o M', D.nx [some (.node .lst (ns.map T.int)), o] M') → forR (fun _ => True) (gName1 1) b_law_1 D items [some (.node .lst (ns.map T.int)), o] M
  | [], _, D, o, M, h => by simp; exact h o M
  | t :: ts, hi, D, o, M, h => by
    obtain ⟨k, h0, rfl⟩ := hi t List.mem_cons_self
    simp only [e_forc, b_law_1, e_not, e_seq, e_asg, e_if, e_or, e_and, e_bl, e_call, e_cons, e_nil, e_c, e_var, e_gName, e_op, e_cb, e_lst, e_tup, e_sl, e_noP, e_part, e_slS, e_addS, e_addI, e_subI, e_lenS, e_drop, e_ret, e_next, List.append_nil, List.getElem?_cons_zero, List.getElem?_cons_succ, List.set_cons_zero, List.set_cons_succ, true_and]
    refine w_cell h0 fun c => w_box fun p M' hp hb => w_case hb fun M2 => ?_
    simp only [e_blk, Bool.not_true, Bool.false_eq_true, if_false, e_next]
    exact lp_law ts (fun t ht => hi t (List.mem_cons_of_mem _ ht)) D _ M2 h
theorem law_true : ∀ ns : List Int, ns.length ≤ 63 → (∀ z ∈ ns, Builtin.Int.intBits z ≤ 1048576) → sp_law [.node .lst (ns.map T.int)] (fun _ => none) (fun t _ => t = .bl true) fun _ _ => False := by
  intro ns hn _
  simp only [sp_law, t_law, TL.startT, e_own]
  refine ⟨rfl, ?_⟩
  simp only [e_seq, e_for, e_rgA, e_cb, e_cons, e_nil, e_c, e_var, e_lenL, e_max, e_min, List.map_cons, List.map_nil, List.cons_append, List.nil_append, List.length_cons, List.length_nil, List.replicate_succ, List.replicate_zero, List.getElem?_cons_zero, List.getElem?_cons_succ, List.length_map]
  refine ⟨.inl trivial, ⟨by split <;> split <;> omega, by split <;> split <;> omega⟩, lp_law _ (fun t ht => ?_) _ none _ fun o M' => ?_⟩
  · unfold rngT at ht
    obtain ⟨i, _, rfl⟩ := List.mem_map.mp ht
    exact ⟨_, by omega, rfl⟩
  · simp only [e_seq, e_asg, e_if, e_or, e_and, e_bl, e_call, e_cons, e_nil, e_c, e_var, e_gName, e_op, e_cb, e_lst, e_tup, e_sl, e_noP, e_part, e_slS, e_addS, e_addI, e_subI, e_lenS, e_drop, e_ret, e_next, List.append_nil, List.getElem?_cons_zero, List.getElem?_cons_succ, List.set_cons_zero, List.set_cons_succ]
    refine w_sum rfl ?_
    have : sm (Str.ofString "") = 1 := by decide +kernel
    rw [this, e_eqI]
    exact retq_id rfl
end K25

open PySem PySem.W PyProof.Rows
set_option maxRecDepth 100000 in
set_option maxHeartbeats 8000000 in
theorem PySem.Challenge.cw_steppedtimes_k25_sums_holds : PySem.Challenge.rw_steppedtimes_k25_sums.Holds := by
  w_on; o_law; k_head; (case hw => w_witness2); k_fill
  refine TL.walk_of1 (n := 63) (k := 8) (y := "_law_script") (sp := K25.sp_law) rfl (by decide) rfl ⟨rfl, by decide, by decide⟩ (fun w h Y => PySem.W.kIn_of Y) (by decide +kernel) ?F ?S
  case F =>
    intro w mg fa h KX G hmg
    refine' K25.all_mk KX G hmg ?a_is_signs ?l_is_signs ?c_is_signs ?k_is_signs ?a_need_signs ?l_need_signs ?c_need_signs ?k_need_signs ?a_sum_of ?l_sum_of ?c_sum_of ?k_sum_of ?a__law_cell ?l__law_cell ?c__law_cell ?k__law_cell ?a__law_box ?l__law_box ?c__law_box ?k__law_box ?a__law_take ?l__law_take ?c__law_take ?k__law_take ?a__law_signs ?l__law_signs ?c__law_signs ?k__law_signs ?a__law_sum ?l__law_sum ?c__law_sum ?k__law_sum ?a__law_turned ?l__law_turned ?c__law_turned ?k__law_turned ?a__law_found ?l__law_found ?c__law_found ?k__law_found ?a__law_case ?l__law_case ?c__law_case ?k__law_case ?a_law ?l_law ?c_law ?k_law ?z_str ?z_isinstance ?z_int ?z_len ?z_max ?z_range ?z_repr ?z_min ?v_BY ?v_PRIME ?ac_TimesError ?ac_NoSigns ?t_ga ?t_rd ?t_ini ?xl_NoSigns ?sa_NoSigns ?be_NoSigns ?ty_NoSigns ?kc_NoSigns ?ii_NoSigns ?ti_NoSigns ?li_NoSigns ?ci_NoSigns ?ki_NoSigns ?xf_NoSigns_found ?is_NoSigns ?s_NoSigns_NoSigns ?be_TimesError ?ty_TimesError ?is_TimesError ?s_NoSigns_TimesError ?fg_NoSigns ?fn_NoSigns ?fh_NoSigns
    (case a_is_signs => k_is)
    (case l_is_signs => k_is)
    (case c_is_signs => k_is)
    (case k_is_signs => k_is)
    (case a_need_signs => k_is)
    (case l_need_signs => k_is)
    (case c_need_signs => k_is)
    (case k_need_signs => k_is)
    (case a_sum_of => k_is)
    (case l_sum_of => k_is)
    (case c_sum_of => k_is)
    (case k_sum_of => k_is)
    (case a__law_cell => k_is)
    (case l__law_cell => k_is)
    (case c__law_cell => k_is)
    (case k__law_cell => k_is)
    (case a__law_box => k_is)
    (case l__law_box => k_is)
    (case c__law_box => k_is)
    (case k__law_box => k_is)
    (case a__law_take => k_is)
    (case l__law_take => k_is)
    (case c__law_take => k_is)
    (case k__law_take => k_is)
    (case a__law_signs => k_is)
    (case l__law_signs => k_is)
    (case c__law_signs => k_is)
    (case k__law_signs => k_is)
    (case a__law_sum => k_is)
    (case l__law_sum => k_is)
    (case c__law_sum => k_is)
    (case k__law_sum => k_is)
    (case a__law_turned => k_is)
    (case l__law_turned => k_is)
    (case c__law_turned => k_is)
    (case k__law_turned => k_is)
    (case a__law_found => k_is)
    (case l__law_found => k_is)
    (case c__law_found => k_is)
    (case k__law_found => k_is)
    (case a__law_case => k_is)
    (case l__law_case => k_is)
    (case c__law_case => k_is)
    (case k__law_case => k_is)
    (case a_law => k_is)
    (case l_law => k_is)
    (case c_law => k_is)
    (case k_law => k_is)
    (case z_str => k_is)
    (case z_isinstance => k_is)
    (case z_int => k_is)
    (case z_len => k_is)
    (case z_max => k_is)
    (case z_range => k_is)
    (case z_repr => k_is)
    (case z_min => k_is)
    (case v_BY => k_is)
    (case v_PRIME => k_is)
    (case ac_TimesError => k_is)
    (case ac_NoSigns => k_is)
    (case t_ga => k_is)
    (case t_rd => k_is)
    (case t_ini => k_is)
    (case xl_NoSigns => k_is)
    (case sa_NoSigns => k_is)
    (case be_NoSigns => k_is)
    (case ty_NoSigns => k_is)
    (case kc_NoSigns => k_is)
    (case ii_NoSigns => k_is)
    (case ti_NoSigns => k_is)
    (case li_NoSigns => k_is)
    (case ci_NoSigns => k_is)
    (case ki_NoSigns => k_is)
    (case xf_NoSigns_found => k_is)
    (case is_NoSigns => k_is)
    (case s_NoSigns_NoSigns => k_is)
    (case be_TimesError => k_is)
    (case ty_TimesError => k_is)
    (case is_TimesError => k_is)
    (case s_NoSigns_TimesError => k_is)
    (case fg_NoSigns => k_is)
    (case fn_NoSigns => k_is)
    (case fh_NoSigns => k_is)
  case S => exact K25.law_true

