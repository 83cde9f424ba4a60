import PyProof.Rows.All
import Wide.All
import OpenK.AllK
import Wide.FinOn
import KE.KStateDown
import Lean
import HandS.Base
import HandS.Call
import HandS.Ends
import HandS.More
import HandS.Words
import HandS.WordsExc
import HandS.Defaults
import HandS.Head0
import HandS.Head1
import HandS.Head2
import HandS.HeadEnd
import HandS.HeadHook1
import HandS.HeadHook2
import HandS.ForMost
import HandS.Wide
import HandS.SortRule
import HandS.Star
import HandS.Zip
import HandS.Rev
import HandS.TupAny
import HandS.IsInst
import HandS.Style
import PySem.Challenge.RW_copyorigins_k08_sets_of_great_positions
set_option Elab.async false
set_option linter.all false
set_option maxRecDepth 100000
set_option maxHeartbeats 4000000
/-! PL1: a layer of plain data over the hand layer: data, what represents it, worlds, slots, canonical readings. -/
namespace Co
open PySem PySem.Spec PyProof.Rows L2

/-! ### data -/
inductive D where
  | non | bl (b : Bool) | int (i : Int) | str (x : Str) | ref (a : Addr) | tup (ds : List D) | lst (ds : List D) | frz (ds : List D)

mutual
/-- v stands for d in the heap H; what it is made of stands apart from M -/
def R (M : Addr → Prop) (H : Hp) : D → V → Prop
  | .non, v => v = .non
  | .bl b, v => v = .bl b
  | .int i, v => v = .int i
  | .str x, v => v = .str x
  | .ref a, v => v = .ref a
  | .tup ds, v => ∃ a vs, v = .ref a ∧ ¬ M a ∧ H a = some (.tup vs) ∧ Rs M H ds vs
  | .lst ds, v => ∃ a vs, v = .ref a ∧ ¬ M a ∧ H a = some (.lst vs) ∧ Rs M H ds vs
  | .frz ds, v => ∃ a o vs, v = .ref a ∧ ¬ M a ∧ H a = some (.frz o (.lst vs)) ∧ Rs M H ds vs
def Rs (M : Addr → Prop) (H : Hp) : List D → List V → Prop
  | [], vs => vs = []
  | d :: ds, vs => ∃ v r, vs = v :: r ∧ R M H d v ∧ Rs M H ds r
end

section
variable {M M' : Addr → Prop} {H H' : Hp}
mutual
theorem R.mv (h1 : ∀ a o, H a = some o → ¬ M a → H' a = some o) (h2 : ∀ a, H a ≠ none → M' a → M a) : ∀ (d : D) (v : V), R M H d v → R M' H' d v
  | .non, v, h => h
  | .bl b, v, h => h
  | .int i, v, h => h
  | .str x, v, h => h
  | .ref a, v, h => h
  | .tup ds, v, h => by
    obtain ⟨a, vs, e, n, ha, q⟩ := h
    exact ⟨a, vs, e, fun z => n (h2 a (by rw [ha]; exact fun z => nomatch z) z), h1 a _ ha n, Rs.mv h1 h2 ds vs q⟩
  | .lst ds, v, h => by
    obtain ⟨a, vs, e, n, ha, q⟩ := h
    exact ⟨a, vs, e, fun z => n (h2 a (by rw [ha]; exact fun z => nomatch z) z), h1 a _ ha n, Rs.mv h1 h2 ds vs q⟩
  | .frz ds, v, h => by
    obtain ⟨a, o, vs, e, n, ha, q⟩ := h
    exact ⟨a, o, vs, e, fun z => n (h2 a (by rw [ha]; exact fun z => nomatch z) z), h1 a _ ha n, Rs.mv h1 h2 ds vs q⟩
theorem Rs.mv (h1 : ∀ a o, H a = some o → ¬ M a → H' a = some o) (h2 : ∀ a, H a ≠ none → M' a → M a) : ∀ (ds : List D) (vs : List V), Rs M H ds vs → Rs M' H' ds vs
  | [], vs, h => h
  | d :: ds, vs, h => by
    obtain ⟨v, r, e, a, b⟩ := h
    exact ⟨v, r, e, R.mv h1 h2 d v a, Rs.mv h1 h2 ds r b⟩
end
theorem Rs.length : ∀ {ds : List D} {vs : List V}, Rs M H ds vs → vs.length = ds.length
  | [], vs, h => by cases h; rfl
  | d :: ds, vs, h => by
    obtain ⟨v, r, e, a, b⟩ := h
    rw [e, List.length_cons, List.length_cons, Rs.length b]
theorem Rs.get : ∀ {ds : List D} {vs : List V} {i : Nat} {d : D}, Rs M H ds vs → ds[i]? = some d → ∃ v, vs[i]? = some v ∧ R M H d v
  | [], _, _, _, _, e => by simp at e
  | d :: ds, vs, 0, x, h, e => by
    obtain ⟨v, r, rfl, a, b⟩ := h
    simp at e; subst e
    exact ⟨v, rfl, a⟩
  | d :: ds, vs, i + 1, x, h, e => by
    obtain ⟨v, r, rfl, a, b⟩ := h
    obtain ⟨w, h1, h2⟩ := Rs.get (i := i) b (by simpa using e)
    exact ⟨w, by simpa using h1, h2⟩
theorem Rs.get' : ∀ {ds : List D} {vs : List V} {i : Nat} {v : V}, Rs M H ds vs → vs[i]? = some v → ∃ d, ds[i]? = some d ∧ R M H d v := fun {ds vs i v} h e => by
  have hl := h.length
  have hi : i < vs.length := (List.getElem?_eq_some_iff.mp e).1
  have hd : ds[i]? = some ds[i] := List.getElem?_eq_getElem (by omega)
  obtain ⟨w, h1, h2⟩ := h.get hd
  rw [e] at h1; cases h1
  exact ⟨_, hd, h2⟩
theorem Rs.append : ∀ {ds es : List D} {vs ws : List V}, Rs M H ds vs → Rs M H es ws → Rs M H (ds ++ es) (vs ++ ws)
  | [], es, vs, ws, h, q => by cases h; exact q
  | d :: ds, es, vs, ws, h, q => by
    obtain ⟨v, r, rfl, a, b⟩ := h
    exact ⟨v, r ++ ws, rfl, a, Rs.append b q⟩
theorem Rs.one {d : D} {v : V} (h : R M H d v) : Rs M H [d] [v] := ⟨v, [], rfl, h, rfl⟩
theorem Rs.nil : Rs M H [] [] := rfl
theorem Rs.snoc {ds : List D} {vs : List V} {d : D} {v : V} (h : Rs M H ds vs) (q : R M H d v) : Rs M H (ds ++ [d]) (vs ++ [v]) := h.append (Rs.one q)
theorem Rs.take : ∀ {ds : List D} {vs : List V} (n : Nat), Rs M H ds vs → Rs M H (ds.take n) (vs.take n)
  | [], vs, n, h => by cases h; rw [List.take_nil, List.take_nil]; rfl
  | d :: ds, vs, 0, h => by rw [List.take_zero, List.take_zero]; rfl
  | d :: ds, vs, n + 1, h => by
    obtain ⟨v, r, rfl, a, b⟩ := h
    exact ⟨v, r.take n, rfl, a, Rs.take n b⟩
theorem Rs.drop : ∀ {ds : List D} {vs : List V} (n : Nat), Rs M H ds vs → Rs M H (ds.drop n) (vs.drop n)
  | [], vs, n, h => by cases h; rw [List.drop_nil, List.drop_nil]; rfl
  | d :: ds, vs, 0, h => h
  | d :: ds, vs, n + 1, h => by
    obtain ⟨v, r, rfl, a, b⟩ := h
    exact Rs.drop n b
theorem Rs.set : ∀ {ds : List D} {vs : List V} {d : D} {v : V} (i : Nat), Rs M H ds vs → R M H d v → Rs M H (ds.set i d) (vs.set i v)
  | [], vs, d, v, i, h, q => by cases h; rfl
  | e :: ds, vs, d, v, 0, h, q => by
    obtain ⟨w, r, rfl, a, b⟩ := h
    exact ⟨v, r, rfl, q, b⟩
  | e :: ds, vs, d, v, i + 1, h, q => by
    obtain ⟨w, r, rfl, a, b⟩ := h
    exact ⟨w, r.set i v, rfl, a, Rs.set i b q⟩
theorem Rs.dropLast {ds : List D} {vs : List V} (h : Rs M H ds vs) : Rs M H ds.dropLast vs.dropLast := by
  rw [List.dropLast_eq_take, List.dropLast_eq_take, h.length]
  exact h.take _
theorem Rs.reverse : ∀ {ds : List D} {vs : List V}, Rs M H ds vs → Rs M H ds.reverse vs.reverse
  | [], vs, h => by cases h; rfl
  | d :: ds, vs, h => by
    obtain ⟨v, r, rfl, a, b⟩ := h
    rw [List.reverse_cons, List.reverse_cons]
    exact Rs.snoc (Rs.reverse b) a
theorem Rs.mem {ds : List D} {vs : List V} {v : V} (h : Rs M H ds vs) (hv : v ∈ vs) : ∃ d ∈ ds, R M H d v := by
  obtain ⟨i, hi⟩ := List.getElem?_of_mem hv
  obtain ⟨d, h1, h2⟩ := h.get' hi
  exact ⟨d, List.mem_of_getElem? h1, h2⟩
theorem Rs.ints : ∀ {ns : List Int} {vs : List V}, Rs M H (ns.map D.int) vs → vs = ns.map V.int
  | [], vs, h => h
  | n :: ns, vs, h => by
    obtain ⟨v, r, rfl, a, b⟩ := h
    rw [Rs.ints (ns := ns) b, show v = V.int n from a]; rfl
theorem Rs.of_ints : ∀ {ns : List Int}, Rs M H (ns.map D.int) (ns.map V.int)
  | [] => rfl
  | n :: ns => ⟨_, _, rfl, rfl, Rs.of_ints⟩
theorem Rs.strs : ∀ {ns : List Str} {vs : List V}, Rs M H (ns.map D.str) vs → vs = ns.map V.str
  | [], vs, h => h
  | n :: ns, vs, h => by
    obtain ⟨v, r, rfl, a, b⟩ := h
    rw [Rs.strs (ns := ns) b, show v = V.str n from a]; rfl
theorem Rs.of_strs : ∀ {ns : List Str}, Rs M H (ns.map D.str) (ns.map V.str)
  | [] => rfl
  | n :: ns => ⟨_, _, rfl, rfl, Rs.of_strs⟩
theorem Rs.bls : ∀ {ns : List Bool} {vs : List V}, Rs M H (ns.map D.bl) vs → vs = ns.map V.bl
  | [], vs, h => h
  | n :: ns, vs, h => by
    obtain ⟨v, r, rfl, a, b⟩ := h
    rw [Rs.bls (ns := ns) b, show v = V.bl n from a]; rfl
end

/-- as R, but the list itself may stand in M (a list that the def itself fills) -/
def RB (M N : Addr → Prop) (H : Hp) (d : D) (v : V) : Prop := R M H d v ∨ ∃ p ds vs, d = .lst ds ∧ v = .ref p ∧ ¬ N p ∧ H p = some (.lst vs) ∧ Rs M H ds vs
section
variable {M N : Addr → Prop} {H : Hp} {d : D} {v : V}
theorem R.b (h : R M H d v) : RB M N H d v := .inl h
theorem RB.lst {ds : List D} (h : RB M N H (.lst ds) v) : ∃ p vs, v = .ref p ∧ H p = some (.lst vs) ∧ Rs M H ds vs := by
  rcases h with ⟨a, vs, e, _, ha, q⟩ | ⟨p, es, vs, e, e2, _, hp, q⟩
  · exact ⟨a, vs, e, ha, q⟩
  · cases e; exact ⟨p, vs, e2, hp, q⟩
theorem RB.flat (h : RB M N H d v) (hd : ∀ ds, d ≠ .lst ds) : R M H d v := by
  rcases h with h | ⟨p, es, vs, e, _⟩
  · exact h
  · exact absurd e (hd es)
theorem RB.tup {ds : List D} (h : RB M N H (.tup ds) v) : ∃ p vs, v = .ref p ∧ H p = some (.tup vs) ∧ Rs M H ds vs := by
  obtain ⟨a, vs, e, _, ha, q⟩ := h.flat fun _ z => nomatch z
  exact ⟨a, vs, e, ha, q⟩
theorem RB.frz {ds : List D} (h : RB M N H (.frz ds) v) : ∃ p o vs, v = .ref p ∧ H p = some (.frz o (.lst vs)) ∧ Rs M H ds vs := by
  obtain ⟨a, o, vs, e, _, ha, q⟩ := h.flat fun _ z => nomatch z
  exact ⟨a, o, vs, e, ha, q⟩
theorem RB.int {i : Int} (h : RB M N H (.int i) v) : v = .int i := h.flat fun _ z => nomatch z
theorem RB.str {i : Str} (h : RB M N H (.str i) v) : v = .str i := h.flat fun _ z => nomatch z
theorem RB.bl {i : Bool} (h : RB M N H (.bl i) v) : v = .bl i := h.flat fun _ z => nomatch z
theorem RB.non (h : RB M N H .non v) : v = .non := h.flat fun _ z => nomatch z
theorem RB.ref {a : Addr} (h : RB M N H (.ref a) v) : v = .ref a := h.flat fun _ z => nomatch z
end
def RBs (M N : Addr → Prop) (H : Hp) : List D → List V → Prop
  | [], vs => vs = []
  | d :: ds, vs => ∃ v r, vs = v :: r ∧ RB M N H d v ∧ RBs M N H ds r

/-! ### worlds: objects that change, by a state -/
structure Wd (γ : Type) where
  mj : Addr → Prop
  J : γ → Hp → Prop
  loc : ∀ g H H', J g H → (∀ a o, mj a → H a = some o → H' a = some o) → J g H'
  dom : ∀ g H a, J g H → mj a → H a ≠ none
/-- no such object -/
def W0 : Wd Unit := ⟨fun _ => False, fun _ _ => True, fun _ _ _ _ _ => trivial, fun _ _ _ _ h => h.elim⟩

/-- what expressions leave -/
structure Ext {γ : Type} (W : Wd γ) (H H' : Hp) : Prop where
  kp : ∀ a o, H a = some o → ¬ W.mj a → H' a = some o
  dm : ∀ a, H a ≠ none → H' a ≠ none
section
variable {γ : Type} {W : Wd γ} {H H1 H2 H' : Hp}
theorem Ext.refl : Ext W H H := ⟨fun _ _ h _ => h, fun _ h => h⟩
theorem Ext.trans (a : Ext W H H1) (b : Ext W H1 H2) : Ext W H H2 := ⟨fun p o h n => b.kp p o (a.kp p o h n) n, fun p h => b.dm p (a.dm p h)⟩
theorem Ext.of_same (h : Same H H') : Ext W H H' := ⟨fun a o e _ => h a o e, fun a n z => by
  cases q : H a with
  | none => exact n q
  | some o => rw [h a o q] at z; cases z⟩
theorem Ext.same0 (h : Ext W0 H H') : Same H H' := fun a o e => h.kp a o e (fun z => z)
theorem same_new {p : Addr} {o : HO} (h : H p = none) : Same H (upd H p o) := fun b x e => by rw [upd_ne (ne_of_none e h)]; exact e
theorem Wd.same (W : Wd γ) {g : γ} (j : W.J g H) (h : Same H H') : W.J g H' := W.loc g H H' j fun a o _ e => h a o e
end

/-! ### slots -/
inductive Slot where
  | no | val (d : D) | own (p : Addr) (ds : List D)
def Slot.ad : Slot → Option Addr
  | .own p _ => some p
  | _ => none
abbrev Sl := List Slot
def owns (ρ : Sl) : List Addr := ρ.filterMap Slot.ad
def MM {γ : Type} (W : Wd γ) (M0 : Addr → Prop) (ρ : Sl) : Addr → Prop := fun a => M0 a ∨ W.mj a ∨ a ∈ owns ρ
def SlotR (M : Addr → Prop) (H : Hp) : Slot → Option (Option V) → Prop
  | .no, _ => True
  | .val d, x => ∃ v, x = some (some v) ∧ R M H d v
  | .own p ds, x => x = some (some (.ref p)) ∧ ∃ vs, H p = some (.lst vs) ∧ Rs M H ds vs
structure RS {γ : Type} (W : Wd γ) (M0 : Addr → Prop) (g : γ) (ρ : Sl) (σ : L2.St) (H : Hp) : Prop where
  j : W.J g H
  m0 : ∀ a, M0 a → H a ≠ none
  own : ∀ p ∈ owns ρ, ¬ M0 p ∧ ¬ W.mj p
  nd : (owns ρ).Nodup
  len : ρ.length = σ.length
  sl : ∀ (i : Nat) (s : Slot), ρ[i]? = some s → SlotR (MM W M0 ρ) H s σ[i]?

theorem mem_owns {ρ : Sl} {p : Addr} : p ∈ owns ρ ↔ ∃ (i : Nat) (ds : List D), ρ[i]? = some (.own p ds) := by
  unfold owns
  rw [List.mem_filterMap]
  constructor
  · rintro ⟨s, hs, e⟩
    obtain ⟨i, hi⟩ := List.getElem?_of_mem hs
    cases s with
    | own q ds =>
      simp only [Slot.ad, Option.some.injEq] at e
      subst e
      exact ⟨i, ds, hi⟩
    | _ => simp [Slot.ad] at e
  · rintro ⟨i, ds, h⟩
    exact ⟨_, List.mem_of_getElem? h, rfl⟩

section
variable {γ : Type} {W : Wd γ} {M0 : Addr → Prop} {g g' : γ} {ρ : Sl} {σ : L2.St} {H H' : Hp}
theorem RS.ne {p : Addr} (r : RS W M0 g ρ σ H) (h : p ∈ owns ρ) : H p ≠ none := by
  obtain ⟨i, ds, e⟩ := mem_owns.mp h
  obtain ⟨_, vs, q, _⟩ := r.sl i _ e
  rw [q]; exact fun z => nomatch z
/-- what is fresh stands apart -/
theorem RS.fresh {p : Addr} (r : RS W M0 g ρ σ H) (h : H p = none) : ¬ MM W M0 ρ p := by
  rintro (z | z | z)
  · exact r.m0 p z h
  · exact W.dom g H p r.j z h
  · exact r.ne z h
theorem RS.mono {d : D} {v : V} (e : Ext W H H') (h : R (MM W M0 ρ) H d v) : R (MM W M0 ρ) H' d v :=
  R.mv (fun a o ha n => e.kp a o ha fun z => n (.inr (.inl z))) (fun _ _ z => z) d v h
theorem RS.monos {ds : List D} {vs : List V} (e : Ext W H H') (h : Rs (MM W M0 ρ) H ds vs) : Rs (MM W M0 ρ) H' ds vs :=
  Rs.mv (fun a o ha n => e.kp a o ha fun z => n (.inr (.inl z))) (fun _ _ z => z) ds vs h
/-- a borrowed one -/
theorem RS.monoB {d : D} {v : V} (e : Ext W H H') (h : RB (MM W M0 ρ) W.mj H d v) : RB (MM W M0 ρ) W.mj H' d v := by
  rcases h with h | ⟨p, ds, vs, e1, e2, n, h1, h2⟩
  · exact .inl (RS.mono e h)
  · exact .inr ⟨p, ds, vs, e1, e2, n, e.kp p _ h1 n, RS.monos e h2⟩
theorem RS.monoBs (e : Ext W H H') : ∀ {ds : List D} {vs : List V}, RBs (MM W M0 ρ) W.mj H ds vs → RBs (MM W M0 ρ) W.mj H' ds vs
  | [], _, h => h
  | d :: ds, _, h => by
    obtain ⟨v, r, e1, a, b⟩ := h
    exact ⟨v, r, e1, RS.monoB e a, RS.monoBs e b⟩
theorem RS.dm (r : RS W M0 g ρ σ H) : ∀ a, MM W M0 ρ a → H a ≠ none := fun a h n => r.fresh n h
theorem RS.ext (r : RS W M0 g ρ σ H) (e : Ext W H H') (j : W.J g' H') : RS W M0 g' ρ σ H' := by
  refine ⟨j, fun a h => e.dm a (r.m0 a h), r.own, r.nd, r.len, fun i s hs => ?_⟩
  have q := r.sl i s hs
  cases s with
  | no => trivial
  | val d =>
    obtain ⟨v, h1, h2⟩ := q
    exact ⟨v, h1, RS.mono e h2⟩
  | own p ds =>
    obtain ⟨h1, vs, h2, h3⟩ := q
    have hp : p ∈ owns ρ := mem_owns.mpr ⟨i, ds, hs⟩
    exact ⟨h1, vs, e.kp p _ h2 (r.own p hp).2, RS.monos e h3⟩
/-- more is held apart -/
theorem RS.more {M1 : Addr → Prop} (r : RS W M0 g ρ σ H) (h1 : ∀ a, M1 a → H a ≠ none) (h2 : ∀ p ∈ owns ρ, ¬ M1 p) (hR : ∀ d v, R (MM W M0 ρ) H d v → R (MM W M1 ρ) H d v) (hRs : ∀ d v, Rs (MM W M0 ρ) H d v → Rs (MM W M1 ρ) H d v) : RS W M1 g ρ σ H := by
  refine ⟨r.j, h1, fun p hp => ⟨h2 p hp, (r.own p hp).2⟩, r.nd, r.len, fun i s hs => ?_⟩
  have q := r.sl i s hs
  cases s with
  | no => trivial
  | val d =>
    obtain ⟨v, a, b⟩ := q
    exact ⟨v, a, hR d v b⟩
  | own p ds =>
    obtain ⟨a, vs, b, c⟩ := q
    exact ⟨a, vs, b, hRs ds vs c⟩
end
end Co
/-! PL2: canonical readings; expressions over plain data. -/
namespace Co
open PySem PySem.Spec PyProof.Rows L2

/-! ### canonical readings -/
section
variable (X : Cx)
def cE (e : Expr) : TE := fun σ H Q => ∀ (pins : List (Addr × Obj)) (s : Shared), Inv X pins σ H s → wpAny (model X.prog X.w) X.A (eval e X.env) (EP X pins σ Q) X.xe s
def cT (e : Expr) : TT := fun σ H Q => ∀ (pins : List (Addr × Obj)) (s : Shared), Inv X pins σ H s → wpAny (model X.prog X.w) X.A (isTrue e X.env (eval e X.env)) (TP X pins σ Q) X.xe s
def cW (e : Expr) : TT := fun σ H Q => ∀ (whole : Sem Value) (pins : List (Addr × Obj)) (s : Shared), Inv X pins σ H s → wpAny (model X.prog X.w) X.A (isTrue e X.env whole) (TP X pins σ Q) X.xe s
def cA (es : List Expr) : TA := fun σ H Q => ∀ (pos : Pos) (pins : List (Addr × Obj)) (s : Shared), Inv X pins σ H s → wpAny (model X.prog X.w) X.A (spliced (backTo pos (starEach es X.env))) (AP X pins σ Q) X.xe s
def cS (st : Stmt) : TS := fun D σ H => ∀ (pins : List (Addr × Obj)) (s : Shared), Inv X pins σ H s → wpAny (model X.prog X.w) X.A (exec st X.env) (SP X pins D) X.xe s
def cSs (st : List Stmt) : TS := fun D σ H => ∀ (pins : List (Addr × Obj)) (s : Shared), Inv X pins σ H s → wpAny (model X.prog X.w) X.A (execs st X.env) (SP X pins D) X.xe s
def cG (tg : Expr) : TG := fun v σ H Q => ∀ (pins : List (Addr × Obj)) (s : Shared) (u : Value), Inv X pins σ H s → RelV v u →
  wpAny (model X.prog X.w) X.A (assign tg X.env u) (fun _ s' => ∃ σ' H', Inv X pins σ' H' s' ∧ Q σ' H') X.xe s
def cGs (ts : List Expr) : TGs := fun vs σ H Q => ∀ (pins : List (Addr × Obj)) (s : Shared) (us : List Value), Inv X pins σ H s → Vals vs us →
  wpAny (model X.prog X.w) X.A (assignInOrder ((assignEach ts X.env).map (·.2)) us) (fun _ s' => ∃ σ' H', Inv X pins σ' H' s' ∧ Q σ' H') X.xe s
def cI (tg iter : Expr) : TI := fun σ H R => ∀ (pins : List (Addr × Obj)) (s : Shared), Inv X pins σ H s → wpAny (model X.prog X.w) X.A (eval iter X.env) (fun v s1 => wpAny (model X.prog X.w) X.A (pyIter v) (PIE X pins σ tg R) X.xe s1) X.xe s
def cO (e : Option Expr) : TO := fun σ H Q => ∀ (pins : List (Addr × Obj)) (s : Shared), Inv X pins σ H s → wpAny (model X.prog X.w) X.A (evalPart e X.env) (fun u s' => ∃ o H', Inv X pins σ H' s' ∧ IsPart u o ∧ Q o H') X.xe s
end
section
variable {X : Cx} {e tg iter : Expr} {es : List Expr} {st : Stmt} {sts : List Stmt} {σ : L2.St} {H : Hp}
theorem pe_c : PE X e (cE X e) := ⟨fun pins s _ _ _ I h => h pins s I⟩
theorem pt_c : PT X e (cT X e) := ⟨fun pins s _ _ _ I h => h pins s I⟩
theorem pw_c : PW X e (cW X e) := ⟨fun wh pins s _ _ _ I h => h wh pins s I⟩
theorem pa_c : PA X es (cA X es) := ⟨fun pos pins s _ _ _ I h => h pos pins s I⟩
theorem ps_c : PS X st (cS X st) := ⟨fun pins s _ _ _ I h => h pins s I⟩
theorem pss_c : PSs X sts (cSs X sts) := ⟨fun pins s _ _ _ I h => h pins s I⟩
theorem pg_c : PG X tg (cG X tg) := ⟨fun pins s _ _ _ u _ I r h => h pins s u I r⟩
theorem pgs_c : PGs X es (cGs X es) := ⟨fun pins s _ _ _ us _ I r h => h pins s us I r⟩
theorem pi_c : PI X tg iter (cI X tg iter) := ⟨fun pins s _ _ _ I h => h pins s I⟩
theorem po_c {o : Option Expr} : PO X o (cO X o) := ⟨fun pins s _ _ _ I h => h pins s I⟩
theorem toE {t : TE} {Q : VK} (h : PE X e t) (q : t σ H Q) : cE X e σ H Q := fun pins s I => h.run pins s σ H Q I q
theorem toT {t : TT} {Q : Bool → Hp → Prop} (h : PT X e t) (q : t σ H Q) : cT X e σ H Q := fun pins s I => h.run pins s σ H Q I q
theorem toW {t : TT} {Q : Bool → Hp → Prop} (h : PW X e t) (q : t σ H Q) : cW X e σ H Q := fun wh pins s I => h.run wh pins s σ H Q I q
theorem toA {t : TA} {Q : List V → Hp → Prop} (h : PA X es t) (q : t σ H Q) : cA X es σ H Q := fun pos pins s I => h.run pos pins s σ H Q I q
theorem toS {t : TS} {D : Ends} (h : PS X st t) (q : t D σ H) : cS X st D σ H := fun pins s I => h.run pins s σ H D I q
theorem toSs {t : TS} {D : Ends} (h : PSs X sts t) (q : t D σ H) : cSs X sts D σ H := fun pins s I => h.run pins s σ H D I q
theorem toG {t : TG} {v : V} {Q : L2.St → Hp → Prop} (h : PG X tg t) (q : t v σ H Q) : cG X tg v σ H Q := fun pins s u I r => h.run pins s σ H v u Q I r q
theorem toGs {t : TGs} {vs : List V} {Q : L2.St → Hp → Prop} (h : PGs X es t) (q : t vs σ H Q) : cGs X es vs σ H Q := fun pins s us I r => h.run pins s σ H vs us Q I r q
theorem toI {t : TI} {R : It → Hp → Prop} (h : PI X tg iter t) (q : t σ H R) : cI X tg iter σ H R := fun pins s I => h.run pins s σ H R I q
theorem toO {o : Option Expr} {t : TO} {Q : Option Int → Hp → Prop} (h : PO X o t) (q : t σ H Q) : cO X o σ H Q := fun pins s I => h.run pins s σ H Q I q
end

/-! ### judgements -/
section
variable {γ : Type}
/-- e gives a datum d, of which φ holds -/
def PEv (X : Cx) (W : Wd γ) (g : γ) (ρ : Sl) (e : Expr) (φ : D → γ → Prop) : Prop := ∀ M0 σ H (Q : VK), RS W M0 g ρ σ H →
  (∀ v d g' H', Ext W H H' → W.J g' H' → R (MM W M0 ρ) H' d v → φ d g' → Q v H') → cE X e σ H Q
/-- .. a list of the def's own among them -/
def PEb (X : Cx) (W : Wd γ) (g : γ) (ρ : Sl) (e : Expr) (φ : D → γ → Prop) : Prop := ∀ M0 σ H (Q : VK), RS W M0 g ρ σ H →
  (∀ v d g' H', Ext W H H' → W.J g' H' → RB (MM W M0 ρ) W.mj H' d v → φ d g' → Q v H') → cE X e σ H Q
/-- e gives a new list -/
def PEf (X : Cx) (W : Wd γ) (g : γ) (ρ : Sl) (e : Expr) (φ : List D → γ → Prop) : Prop := ∀ M0 σ H (Q : VK), RS W M0 g ρ σ H →
  (∀ p vs ds g' H', Ext W H H' → W.J g' H' → H p = none → H' p = some (.lst vs) → Rs (fun a => MM W M0 ρ a ∨ a = p) H' ds vs → φ ds g' → Q (.ref p) H') → cE X e σ H Q
def PTv (X : Cx) (W : Wd γ) (g : γ) (ρ : Sl) (e : Expr) (φ : Bool → γ → Prop) : Prop := ∀ M0 σ H (Q : Bool → Hp → Prop), RS W M0 g ρ σ H →
  (∀ b g' H', Ext W H H' → W.J g' H' → φ b g' → Q b H') → cT X e σ H Q
def PWv (X : Cx) (W : Wd γ) (g : γ) (ρ : Sl) (e : Expr) (φ : Bool → γ → Prop) : Prop := ∀ M0 σ H (Q : Bool → Hp → Prop), RS W M0 g ρ σ H →
  (∀ b g' H', Ext W H H' → W.J g' H' → φ b g' → Q b H') → cW X e σ H Q
def PAv (X : Cx) (W : Wd γ) (g : γ) (ρ : Sl) (es : List Expr) (φ : List D → γ → Prop) : Prop := ∀ M0 σ H (Q : List V → Hp → Prop), RS W M0 g ρ σ H →
  (∀ vs ds g' H', Ext W H H' → W.J g' H' → Rs (MM W M0 ρ) H' ds vs → φ ds g' → Q vs H') → cA X es σ H Q
def PAb (X : Cx) (W : Wd γ) (g : γ) (ρ : Sl) (es : List Expr) (φ : List D → γ → Prop) : Prop := ∀ M0 σ H (Q : List V → Hp → Prop), RS W M0 g ρ σ H →
  (∀ vs ds g' H', Ext W H H' → W.J g' H' → RBs (MM W M0 ρ) W.mj H' ds vs → φ ds g' → Q vs H') → cA X es σ H Q
def POv (X : Cx) (W : Wd γ) (g : γ) (ρ : Sl) (o : Option Expr) (φ : Option Int → γ → Prop) : Prop := ∀ M0 σ H (Q : Option Int → Hp → Prop), RS W M0 g ρ σ H →
  (∀ b g' H', Ext W H H' → W.J g' H' → φ b g' → Q b H') → cO X o σ H Q
end

section
variable {γ : Type} {X : Cx} {W : Wd γ} {g : γ} {ρ : Sl} {e a b c : Expr} {es : List Expr} {φ : D → γ → Prop} {pos : Pos}

theorem PEv.imp {ψ : D → γ → Prop} (h : PEv X W g ρ e φ) (k : ∀ d g', φ d g' → ψ d g') : PEv X W g ρ e ψ := fun M0 σ H Q r q => h M0 σ H Q r fun v d g' H' x j rv p => q v d g' H' x j rv (k d g' p)
theorem PTv.imp {φ ψ : Bool → γ → Prop} (h : PTv X W g ρ e φ) (k : ∀ d g', φ d g' → ψ d g') : PTv X W g ρ e ψ := fun M0 σ H Q r q => h M0 σ H Q r fun d g' H' x j p => q d g' H' x j (k d g' p)
theorem eb (h : PEv X W g ρ e φ) : PEb X W g ρ e φ := fun M0 σ H Q r q => h M0 σ H Q r fun v d g' H' x j rv p => q v d g' H' x j rv.b p
theorem PEf.ev {φ : D → γ → Prop} (h : PEf X W g ρ e fun ds g' => φ (.lst ds) g') : PEv X W g ρ e φ := fun M0 σ H Q r q => h M0 σ H Q r fun p vs ds g' H' x j hn hp hr k =>
  q _ (.lst ds) g' H' x j ⟨p, vs, rfl, r.fresh hn, hp, Rs.mv (fun _ _ h _ => h) (fun _ _ z => .inl z) ds vs hr⟩ k

/-! ### names, constants -/
theorem ev_var (i : Nat) {x : Str} {d : D} (hN : X.N[i]? = some x := by rfl) (hd : ρ[i]? = some (.val d) := by rfl)
    (hv : Vis X.env.scope x := by first | exact Or.inl rfl | exact Or.inr (Or.inl rfl) | exact Or.inr (Or.inr rfl)) (h1 : (x == ("__debug__" : Str)) = false := by decide)
    (h2 : (x == ("__classdict__" : Str)) = false := by decide) (h : φ d g) : PEv X W g ρ (.Name x pos) φ := fun M0 σ H Q r q => by
  obtain ⟨v, e1, rv⟩ := r.sl i _ hd
  exact toE (pe_var hN hv h1 h2) ⟨v, e1, q v d g H Ext.refl r.j rv h⟩
theorem eb_own (i : Nat) {x : Str} {p : Addr} {ds : List D} (hN : X.N[i]? = some x := by rfl) (hd : ρ[i]? = some (.own p ds) := by rfl)
    (hv : Vis X.env.scope x := by first | exact Or.inl rfl | exact Or.inr (Or.inl rfl) | exact Or.inr (Or.inr rfl)) (h1 : (x == ("__debug__" : Str)) = false := by decide)
    (h2 : (x == ("__classdict__" : Str)) = false := by decide) (h : φ (.lst ds) g) : PEb X W g ρ (.Name x pos) φ := fun M0 σ H Q r q => by
  obtain ⟨e1, vs, hp, rv⟩ := r.sl i _ hd
  exact toE (pe_var hN hv h1 h2) ⟨_, e1, q _ (.lst ds) g H Ext.refl r.j (.inr ⟨p, ds, vs, rfl, rfl, (r.own p (mem_owns.mpr ⟨i, ds, hd⟩)).2, hp, rv⟩) h⟩
theorem ev_int {i : Int} {j : Nat} (h : φ (.int i) g) : PEv X W g ρ (.Constant (.int i) j pos) φ := fun M0 σ H Q r q => toE pe_int (q _ (.int i) g H Ext.refl r.j rfl h)
theorem ev_bl {i : Bool} {j : Nat} (h : φ (.bl i) g) : PEv X W g ρ (.Constant (.bool i) j pos) φ := fun M0 σ H Q r q => toE pe_bl (q _ (.bl i) g H Ext.refl r.j rfl h)
theorem ev_non {j : Nat} (h : φ .non g) : PEv X W g ρ (.Constant .none j pos) φ := fun M0 σ H Q r q => toE pe_non (q _ .non g H Ext.refl r.j rfl h)
theorem ev_str {i : Str} {j : Nat} (h : φ (.str i) g) : PEv X W g ρ (.Constant (.str i) j pos) φ := fun M0 σ H Q r q => toE pe_str (q _ (.str i) g H Ext.refl r.j rfl h)
/-- a constant of the module: an int, a text -/
inductive Flat : D → V → Value → Prop where
  | int (i : Int) (t : Tok) : Flat (.int i) (.int i) (.int i t)
  | str (x : Str) (t : Tok) : Flat (.str x) (.str x) (.str x t)
theorem ev_glob {x : Str} {d : D} {v : V} {u : Value} (hm : X.mg x = some u) (hf : Flat d v u) (h : φ d g) (hg : Gl X x := by rfl) (hd : (x == ("__debug__" : Str)) = false := by decide) : PEv X W g ρ (.Name x pos) φ := fun M0 σ H Q r q => by
  cases hf with
  | int i t => exact toE (pe_glob (v := .int i) hg hm ⟨t, rfl⟩ hd) (q _ (.int i) g H Ext.refl r.j rfl h)
  | str i t => exact toE (pe_glob (v := .str i) hg hm ⟨t, rfl⟩ hd) (q _ (.str i) g H Ext.refl r.j rfl h)

/-! ### operators by values -/
def OpD (X : Cx) (f : Value → Value → Sem Value) (dx dy : D) (φ : D → Prop) : Prop := ∀ (M N : Addr → Prop) (pins : List (Addr × Obj)) (s : Shared) (σ : L2.St) (H : Hp) (x y : V) (v u : Value) (Q : VK), Inv X pins σ H s → RelV x v → RelV y u →
  RB M N H dx x → RB M N H dy y → (∀ a, M a → H a ≠ none) → (∀ z d H', Same H H' → R M H' d z → φ d → Q z H') → wpAny (model X.prog X.w) X.A (f v u) (EP X pins σ Q) X.xe s
theorem OpD.of {f : Value → Value → Sem Value} {r : R2} {dx dy : D} {φ : D → Prop} (ho : OpR X f r)
    (h : ∀ (M N : Addr → Prop) (H : Hp) (x y : V) (Q : VK), RB M N H dx x → RB M N H dy y → (∀ a, M a → H a ≠ none) → (∀ z d H', Same H H' → R M H' d z → φ d → Q z H') → r x y H Q) : OpD X f dx dy φ :=
  fun M N pins s σ H x y v u Q I rx ry bx byy dm k => ho pins s σ H x y v u Q I rx ry (h M N H x y Q bx byy dm k)

theorem bin_go {f : Value → Value → Sem Value} {φ : D → γ → Prop} {M0 : Addr → Prop} {σ : L2.St} {H : Hp} {Q : VK} {pins : List (Addr × Obj)} {s : Shared}
    (h : PEb X W g ρ a fun x g1 => PEb X W g1 ρ b fun y g2 => OpD X f x y fun z => φ z g2) (r : RS W M0 g ρ σ H) (I : Inv X pins σ H s)
    (k : ∀ v d g' H', Ext W H H' → W.J g' H' → R (MM W M0 ρ) H' d v → φ d g' → Q v H') :
    wpAny (model X.prog X.w) X.A (eval a X.env) (fun v s₁ => wpAny (model X.prog X.w) X.A (eval b X.env) (fun u s₂ => wpAny (model X.prog X.w) X.A (f v u) (EP X pins σ Q) X.xe s₂) X.xe s₁) X.xe s := by
  refine binT (R := fun x y H2 => ∃ dx dy g2, RS W M0 g2 ρ σ H2 ∧ Ext W H H2 ∧ RB (MM W M0 ρ) W.mj H2 dx x ∧ RB (MM W M0 ρ) W.mj H2 dy y ∧ OpD X f dx dy fun z => φ z g2) pe_c pe_c I ?_ ?_
  · refine h M0 σ H _ r fun x dx g1 H1 e1 j1 r1 p1 => ?_
    refine p1 M0 σ H1 _ (r.ext e1 j1) fun y dy g2 H2 e2 j2 r2 p2 => ?_
    exact ⟨dx, dy, g2, (r.ext e1 j1).ext e2 j2, e1.trans e2, RS.monoB e2 r1, r2, p2⟩
  · rintro v u s2 x y H2 I2 rx ry ⟨dx, dy, g2, r2, e2, bx, byy, ho⟩
    refine ho _ _ pins s2 σ H2 x y v u Q I2 rx ry bx byy r2.dm fun z d H3 sm rz p => ?_
    exact k z d g2 H3 (e2.trans (Ext.of_same sm)) (W.same r2.j sm) rz p
theorem ev_bin {op : Operator} {φ : D → γ → Prop} (h : PEb X W g ρ a fun x g1 => PEb X W g1 ρ b fun y g2 => OpD X (binaryOp op) x y fun z => φ z g2) : PEv X W g ρ (.BinOp a op b pos) φ := fun M0 σ H Q r k pins s I =>
  wpAny_BinOp (bin_go h r I k)
theorem ev_cmp {op : CmpOp} {φ : D → γ → Prop} (h : PEb X W g ρ a fun x g1 => PEb X W g1 ρ b fun y g2 => OpD X (compareOp op) x y fun z => φ z g2) (hm : behindInMarks op b = false := by first | exact nomark _ | with_unfolding_all rfl) : PEv X W g ρ (.Compare a [op] [b] pos) φ := fun M0 σ H Q r k pins s I =>
  wpAny_Compare1 (bin_go h r I k) hm
theorem tv_cmp {op : CmpOp} {φ : Bool → γ → Prop} (h : PEb X W g ρ a fun x g1 => PEb X W g1 ρ b fun y g2 => OpD X (compareOp op) x y fun z => ∃ c, z = .bl c ∧ φ c g2) (hm : behindInMarks op b = false := by first | exact nomark _ | with_unfolding_all rfl) : PTv X W g ρ (.Compare a [op] [b] pos) φ := fun M0 σ H Q r k pins s I => by
  have main := bin_go (φ := fun z g2 => ∃ c, z = .bl c ∧ φ c g2) (Q := fun v H' => ∃ c, v = .bl c ∧ Q c H') h r I fun v d g' H' e j rv p => by
    obtain ⟨c, rfl, p⟩ := p
    exact ⟨c, rv, k c g' H' e j p⟩
  refine wpAny_isTrue_Compare1 (thn main fun v s1 h1 => thn h1 fun u s2 h2 => thn h2 fun w s3 ⟨z, H3, I3, r3, c, e, q3⟩ => ?_) hm
  subst e
  cases r3
  exact wpAny_truthy_bool ⟨H3, I3, q3⟩

/-! ints -/
theorem od_I {f : Value → Value → Sem Value} {C : Int → Int → Prop} {k : Int → Int → Int} {i j : Int} {φ : D → Prop} (ho : OpR X f (rI C fun i j => .int (k i j))) (hc : C i j) (h : φ (.int (k i j))) : OpD X f (.int i) (.int j) φ :=
  OpD.of ho fun M N H x y Q bx byy _ q => ⟨i, j, bx.int, byy.int, hc, q _ (.int (k i j)) H (Same.refl H) rfl h⟩
theorem od_I0 {f : Value → Value → Sem Value} {k : Int → Int → Int} {i j : Int} {φ : D → Prop} (ho : OpR X f (rI0 fun i j => .int (k i j))) (h : φ (.int (k i j))) : OpD X f (.int i) (.int j) φ :=
  OpD.of ho fun M N H x y Q bx byy _ q => ⟨i, j, bx.int, byy.int, q _ (.int (k i j)) H (Same.refl H) rfl h⟩
theorem od_B0 {f : Value → Value → Sem Value} {k : Int → Int → Bool} {i j : Int} {φ : D → Prop} (ho : OpR X f (rI0 fun i j => .bl (k i j))) (h : φ (.bl (k i j))) : OpD X f (.int i) (.int j) φ :=
  OpD.of ho fun M N H x y Q bx byy _ q => ⟨i, j, bx.int, byy.int, q _ (.bl (k i j)) H (Same.refl H) rfl h⟩
variable {i j : Int} {ψ : D → Prop}
theorem od_add (h : ψ (.int (i + j))) : OpD X (binaryOp .Add) (.int i) (.int j) ψ := od_I0 op_add h
theorem od_sub (h : ψ (.int (i - j))) : OpD X (binaryOp .Sub) (.int i) (.int j) ψ := od_I0 op_sub h
theorem op_mulOk : OpR X (binaryOp .Mult) (rI IntMulOk fun i j => .int (i * j)) := opI fun _ _ _ _ _ _ _ hc q => mul_int q hc
theorem od_mulR (h1 : -(2 ^ 64) < j) (h2 : j < 2 ^ 64) (h : ψ (.int (i * j))) : OpD X (binaryOp .Mult) (.int i) (.int j) ψ := od_I op_mul (.inr ⟨h1, h2⟩) h
theorem od_mulL (h1 : -(2 ^ 64) < i) (h2 : i < 2 ^ 64) (h : ψ (.int (i * j))) : OpD X (binaryOp .Mult) (.int i) (.int j) ψ := od_I op_mul (.inl ⟨h1, h2⟩) h
theorem od_mod (h0 : 0 < j) (h : ψ (.int (i % j))) : OpD X (binaryOp .Mod) (.int i) (.int j) ψ := od_I op_mod h0 h
/-- a divisor below 2 ^ 250 -/
theorem od_div (h0 : 0 < j) (h1 : j < 2 ^ 250) (h : ψ (.int (i / j))) : OpD X (binaryOp .FloorDiv) (.int i) (.int j) ψ :=
  od_I op_fdivW (wide_div h0 (b := 250) (by
    have e : ((j.natAbs : Nat) : Int) = j := by omega
    have : ((j.natAbs : Nat) : Int) < ((2 ^ 250 : Nat) : Int) := by rw [e]; exact_mod_cast h1
    exact_mod_cast this) (by decide) (by decide)) h
theorem op_powG : OpR X (binaryOp .Pow) (rI (fun i j => 0 ≤ j ∧ (Builtin.Int.intBits i : Int) * j ≤ 2 ^ 27) fun i j => .int (i ^ j.toNat)) := opI fun _ _ _ _ _ _ _ hc q => pow_int hc.1 hc.2 q
theorem od_pow (h0 : 0 ≤ j) (h1 : (Builtin.Int.intBits i : Int) * j ≤ 2 ^ 27) (h : ψ (.int (i ^ j.toNat))) : OpD X (binaryOp .Pow) (.int i) (.int j) ψ := od_I op_powG ⟨h0, h1⟩ h
theorem od_lt (h : ψ (.bl (decide (i < j)))) : OpD X (compareOp .Lt) (.int i) (.int j) ψ := od_B0 op_lt h
theorem od_le (h : ψ (.bl (decide (i ≤ j)))) : OpD X (compareOp .LtE) (.int i) (.int j) ψ := od_B0 op_le h
theorem od_gt (h : ψ (.bl (decide (j < i)))) : OpD X (compareOp .Gt) (.int i) (.int j) ψ := od_B0 op_gt h
theorem od_ge (h : ψ (.bl (decide (j ≤ i)))) : OpD X (compareOp .GtE) (.int i) (.int j) ψ := od_B0 op_ge h
end
end Co
/-! PL3: slots written; tests; displays; subscripts; iterators; comprehensions. -/
namespace Co
open PySem PySem.Spec PyProof.Rows L2

/-! ### slots written -/
theorem owns_set_no {s : Slot} (hs : s.ad = none) : ∀ (ρ : Sl) (i : Nat), (owns (ρ.set i s)).Sublist (owns ρ)
  | [], i => by simp [owns]
  | t :: ρ, 0 => by
    have e : owns (s :: ρ) = owns ρ := by simp [owns, List.filterMap_cons, hs]
    rw [List.set_cons_zero, e]
    unfold owns
    exact List.Sublist.filterMap _ (List.sublist_cons_self _ _)
  | t :: ρ, i + 1 => by
    have ih := owns_set_no hs ρ i
    rw [List.set_cons_succ]
    unfold owns at *
    rw [List.filterMap_cons, List.filterMap_cons]
    cases t.ad with
    | none => exact ih
    | some p => exact ih.cons_cons p
theorem owns_set_own {p : Addr} {ds : List D} : ∀ (ρ : Sl) (i : Nat), (owns ρ).Nodup → p ∉ owns ρ → (owns (ρ.set i (.own p ds))).Nodup ∧ ∀ q ∈ owns (ρ.set i (.own p ds)), q = p ∨ q ∈ owns ρ
  | [], i, h, hp => by simp [owns]
  | t :: ρ, 0, h, hp => by
    rw [List.set_cons_zero]
    have e : owns (Slot.own p ds :: ρ) = p :: owns ρ := by simp [owns, List.filterMap_cons, Slot.ad]
    have sub : (owns ρ).Sublist (owns (t :: ρ)) := List.Sublist.filterMap _ (List.sublist_cons_self _ _)
    rw [e]
    refine ⟨List.nodup_cons.mpr ⟨fun z => hp (sub.subset z), h.sublist sub⟩, fun q hq => ?_⟩
    rcases List.mem_cons.mp hq with z | z
    · exact .inl z
    · exact .inr (sub.subset z)
  | t :: ρ, i + 1, h, hp => by
    rw [List.set_cons_succ]
    have sub : (owns ρ).Sublist (owns (t :: ρ)) := List.Sublist.filterMap _ (List.sublist_cons_self _ _)
    obtain ⟨a, b⟩ := owns_set_own ρ i (h.sublist sub) (fun z => hp (sub.subset z))
    cases ht : t.ad with
    | none =>
      have e : ∀ r, owns (t :: r) = owns r := fun r => by simp [owns, List.filterMap_cons, ht]
      rw [e, e]
      exact ⟨a, b⟩
    | some q =>
      have e : ∀ r, owns (t :: r) = q :: owns r := fun r => by simp [owns, List.filterMap_cons, ht]
      rw [e] at h hp
      rw [e, e]
      have n := List.nodup_cons.mp h
      refine ⟨List.nodup_cons.mpr ⟨fun z => ?_, a⟩, fun x hx => ?_⟩
      · rcases b q z with e | z
        · exact hp (by rw [e]; exact List.mem_cons_self)
        · exact n.1 z
      · rcases List.mem_cons.mp hx with z | z
        · exact .inr (by rw [z]; exact List.mem_cons_self)
        · rcases b x z with z | z
          · exact .inl z
          · exact .inr (List.mem_cons_of_mem _ z)
theorem owns_upd {p : Addr} {ds es : List D} : ∀ (ρ : Sl) (i : Nat), ρ[i]? = some (.own p ds) → owns (ρ.set i (.own p es)) = owns ρ
  | [], i, h => by simp at h
  | t :: ρ, 0, h => by
    simp at h; subst h
    rw [List.set_cons_zero]
    simp [owns, List.filterMap_cons, Slot.ad]
  | t :: ρ, i + 1, h => by
    rw [List.set_cons_succ]
    have ih := owns_upd (es := es) ρ i (by simpa using h)
    unfold owns at *
    rw [List.filterMap_cons, List.filterMap_cons, ih]

theorem own_inj {p : Addr} {ds es : List D} : ∀ (ρ : Sl) (i j : Nat), (owns ρ).Nodup → ρ[i]? = some (.own p ds) → ρ[j]? = some (.own p es) → i = j
  | [], i, j, _, h, _ => by simp at h
  | t :: ρ, 0, 0, _, _, _ => rfl
  | t :: ρ, 0, j + 1, n, h, h2 => by
    simp at h; subst h
    have e : owns (Slot.own p ds :: ρ) = p :: owns ρ := by simp [owns, List.filterMap_cons, Slot.ad]
    rw [e] at n
    exact absurd (mem_owns.mpr ⟨j, es, by simpa using h2⟩) (List.nodup_cons.mp n).1
  | t :: ρ, i + 1, 0, n, h, h2 => by
    simp at h2; subst h2
    have e : owns (Slot.own p es :: ρ) = p :: owns ρ := by simp [owns, List.filterMap_cons, Slot.ad]
    rw [e] at n
    exact absurd (mem_owns.mpr ⟨i, ds, by simpa using h⟩) (List.nodup_cons.mp n).1
  | t :: ρ, i + 1, j + 1, n, h, h2 => by
    have sub : (owns ρ).Sublist (owns (t :: ρ)) := List.Sublist.filterMap _ (List.sublist_cons_self _ _)
    rw [own_inj ρ i j (n.sublist sub) (by simpa using h) (by simpa using h2)]
theorem owns_gone {p : Addr} {ds : List D} {s : Slot} (ρ : Sl) (i : Nat) (n : (owns ρ).Nodup) (h : ρ[i]? = some (.own p ds)) (hs : s.ad = none) : p ∉ owns (ρ.set i s) := fun z => by
  obtain ⟨j, es, e⟩ := mem_owns.mp z
  by_cases hj : j = i
  · subst hj
    rw [List.getElem?_set_self (List.getElem?_eq_some_iff.mp h).1] at e
    cases e
    simp [Slot.ad] at hs
  · rw [List.getElem?_set_ne (Ne.symm hj)] at e
    exact hj (own_inj ρ j i n e h)

/-- what a statement leaves -/
structure Stp {γ : Type} (W : Wd γ) (ρ ρ' : Sl) (H H' : Hp) : Prop where
  kp : ∀ a o, H a = some o → ¬ W.mj a → a ∉ owns ρ → H' a = some o
  dm : ∀ a, H a ≠ none → H' a ≠ none
  ow : ∀ p ∈ owns ρ', p ∈ owns ρ ∨ H p = none
section
variable {γ : Type} {W : Wd γ} {M0 : Addr → Prop} {g g' : γ} {ρ ρ1 ρ2 : Sl} {σ σ' : L2.St} {H H' H1 H2 : Hp}
theorem Stp.refl : Stp W ρ ρ H H := ⟨fun _ _ h _ _ => h, fun _ h => h, fun _ h => .inl h⟩
theorem Stp.of_ext (e : Ext W H H') : Stp W ρ ρ H H' := ⟨fun a o h n _ => e.kp a o h n, e.dm, fun _ h => .inl h⟩
theorem Stp.trans (a : Stp W ρ ρ1 H H1) (b : Stp W ρ1 ρ2 H1 H2) : Stp W ρ ρ2 H H2 := by
  refine ⟨fun p o h n hp => ?_, fun p h => b.dm p (a.dm p h), fun p hp => ?_⟩
  · refine b.kp p o (a.kp p o h n hp) n fun z => ?_
    rcases a.ow p z with z | z
    · exact hp z
    · rw [h] at z; cases z
  · rcases b.ow p hp with z | z
    · exact a.ow p z
    · refine .inr ?_
      cases q : H p with
      | none => rfl
      | some o => exact absurd z (a.dm p (by rw [q]; exact fun z => nomatch z))
theorem Stp.sub (a : Stp W ρ ρ1 H H1) (h : ∀ p ∈ owns ρ2, p ∈ owns ρ1) : Stp W ρ ρ2 H H1 := ⟨a.kp, a.dm, fun p hp => a.ow p (h p hp)⟩
/-- a datum that was made ahead of a statement -/
theorem Stp.r (s : Stp W ρ ρ1 H H1) {d : D} {v : V} (h : R (MM W M0 ρ) H d v) : R (MM W M0 ρ1) H1 d v := by
  refine R.mv (fun a o ha n => s.kp a o ha (fun z => n (.inr (.inl z))) fun z => n (.inr (.inr z))) (fun a ha z => ?_) d v h
  rcases z with z | z | z
  · exact .inl z
  · exact .inr (.inl z)
  · rcases s.ow a z with z | z
    · exact .inr (.inr z)
    · exact absurd z ha
/-- a slot is given a datum -/
theorem RS.setS (r : RS W M0 g ρ σ H) {i : Nat} {s : Slot} {x : Option V} (hs : s.ad = none) (hv : SlotR (MM W M0 (ρ.set i s)) H s (some x)) : RS W M0 g (ρ.set i s) (σ.set i x) H := by
  have sub := owns_set_no hs ρ i
  have mm : ∀ a, MM W M0 (ρ.set i s) a → MM W M0 ρ a := fun a h => by
    rcases h with h | h | h
    · exact .inl h
    · exact .inr (.inl h)
    · exact .inr (.inr (sub.subset h))
  refine ⟨r.j, r.m0, fun p hp => r.own p (sub.subset hp), r.nd.sublist sub, by rw [List.length_set, List.length_set, r.len], fun j t ht => ?_⟩
  by_cases hj : j = i
  · subst hj
    have hl : j < ρ.length := by
      have := (List.getElem?_eq_some_iff.mp ht).1
      rwa [List.length_set] at this
    rw [List.getElem?_set_self hl] at ht
    cases ht
    rw [List.getElem?_set_self (by rw [← r.len]; exact hl)]
    exact hv
  · rw [List.getElem?_set_ne (Ne.symm hj)] at ht ⊢
    have q := r.sl j t ht
    cases t with
    | no => trivial
    | val d =>
      obtain ⟨w, a, b⟩ := q
      exact ⟨w, a, R.mv (fun a o h _ => h) (fun a _ z => mm a z) d w b⟩
    | own p ds =>
      obtain ⟨a, vs, b, c⟩ := q
      exact ⟨a, vs, b, Rs.mv (fun a o h _ => h) (fun a _ z => mm a z) ds vs c⟩
theorem MM_set {i : Nat} {s : Slot} (hs : s.ad = none) {a : Addr} (h : MM W M0 (ρ.set i s) a) : MM W M0 ρ a := by
  rcases h with h | h | h
  · exact .inl h
  · exact .inr (.inl h)
  · exact .inr (.inr ((owns_set_no hs ρ i).subset h))
theorem RS.set (r : RS W M0 g ρ σ H) {d : D} {v : V} (h : R (MM W M0 ρ) H d v) (i : Nat) : RS W M0 g (ρ.set i (.val d)) (σ.set i (some v)) H :=
  r.setS rfl ⟨v, rfl, R.mv (fun a o h _ => h) (fun a _ z => MM_set rfl z) d v h⟩
theorem Stp.set {i : Nat} {d : D} : Stp W ρ (ρ.set i (.val d)) H H := ⟨fun _ _ h _ _ => h, fun _ h => h, fun p hp => .inl ((owns_set_no rfl ρ i).subset hp)⟩
theorem RS.no (r : RS W M0 g ρ σ H) (i : Nat) (x : Option V) : RS W M0 g (ρ.set i .no) (σ.set i x) H := r.setS rfl trivial
/-- names forgotten -/
def wipeS (ρ : Sl) : List Nat → Sl
  | [] => ρ
  | v :: vs => (wipeS ρ vs).set v .no
theorem RS.wipe (r : RS W M0 g ρ σ H) : ∀ vs : List Nat, RS W M0 g (wipeS ρ vs) (L2.wipe σ vs) H
  | [] => r
  | v :: vs => (RS.wipe r vs).no v none
theorem owns_wipe (ρ : Sl) : ∀ vs : List Nat, ∀ p ∈ owns (wipeS ρ vs), p ∈ owns ρ
  | [], p, h => h
  | v :: vs, p, h => owns_wipe ρ vs p ((owns_set_no rfl _ _).subset h)
/-- a new list is the def's own -/
theorem RS.setOwn (r : RS W M0 g ρ σ H) (e : Ext W H H') (j : W.J g' H') {p : Addr} {vs : List V} {ds : List D} (hn : H p = none) (hp : H' p = some (.lst vs)) (hr : Rs (fun a => MM W M0 ρ a ∨ a = p) H' ds vs) (i : Nat) :
    RS W M0 g' (ρ.set i (.own p ds)) (σ.set i (some (.ref p))) H' ∧ Stp W ρ (ρ.set i (.own p ds)) H H' := by
  have np : p ∉ owns ρ := fun z => r.ne z hn
  obtain ⟨nd, ow⟩ := owns_set_own (p := p) (ds := ds) ρ i r.nd np
  have r' := r.ext e j
  have mmp : ∀ a, H a ≠ none → MM W M0 (ρ.set i (.own p ds)) a → MM W M0 ρ a := fun a ha h => by
    rcases h with h | h | h
    · exact .inl h
    · exact .inr (.inl h)
    · rcases ow a h with h | h
      · rw [h] at ha; exact absurd hn ha
      · exact .inr (.inr h)
  refine ⟨⟨j, r'.m0, fun q hq => ?_, nd, by rw [List.length_set, List.length_set, r.len], fun k t ht => ?_⟩, e.kp |> fun kp => ⟨fun a o h n _ => kp a o h n, e.dm, fun q hq => ?_⟩⟩
  · rcases ow q hq with h | h
    · rw [h]
      exact ⟨fun z => r.m0 p z hn, fun z => W.dom g H p r.j z hn⟩
    · exact r.own q h
  · by_cases hk : k = i
    · subst hk
      have hl : k < ρ.length := by
        have := (List.getElem?_eq_some_iff.mp ht).1
        rwa [List.length_set] at this
      rw [List.getElem?_set_self hl] at ht
      cases ht
      rw [List.getElem?_set_self (by rw [← r.len]; exact hl)]
      refine ⟨rfl, vs, hp, Rs.mv (fun _ _ h _ => h) (fun a _ z => ?_) ds vs hr⟩
      rcases z with z | z | z
      · exact .inl (.inl z)
      · exact .inl (.inr (.inl z))
      · rcases ow a z with z | z
        · exact .inr z
        · exact .inl (.inr (.inr z))
    · rw [List.getElem?_set_ne (Ne.symm hk)] at ht ⊢
      have q := r.sl k t ht
      cases t with
      | no => trivial
      | val d =>
        obtain ⟨w, a, b⟩ := q
        exact ⟨w, a, R.mv (fun a o h n => e.kp a o h fun z => n (.inr (.inl z))) mmp d w b⟩
      | own q' es =>
        obtain ⟨a, ws, b, c⟩ := q
        exact ⟨a, ws, e.kp q' _ b (r.own q' (mem_owns.mpr ⟨k, es, ht⟩)).2, Rs.mv (fun a o h n => e.kp a o h fun z => n (.inr (.inl z))) mmp es ws c⟩
  · rcases ow q hq with h | h
    · rw [h]; exact .inr hn
    · exact .inl h

/-- the def's own list is rewritten -/
theorem RS.updOwn (r : RS W M0 g ρ σ H) {i : Nat} {p : Addr} {ds es : List D} {ws : List V} (hi : ρ[i]? = some (.own p ds)) (hr : Rs (MM W M0 ρ) H es ws) :
    RS W M0 g (ρ.set i (.own p es)) σ (upd H p (.lst ws)) ∧ Stp W ρ (ρ.set i (.own p es)) H (upd H p (.lst ws)) := by
  have eo := owns_upd (es := es) ρ i hi
  have hp : p ∈ owns ρ := mem_owns.mpr ⟨i, ds, hi⟩
  have mm : MM W M0 (ρ.set i (.own p es)) = MM W M0 ρ := by unfold MM; rw [eo]
  have kp : ∀ a o, H a = some o → ¬ MM W M0 ρ a → upd H p (.lst ws) a = some o := fun a o h n => by
    rw [upd_ne (fun z => n (by rw [z]; exact .inr (.inr hp)))]; exact h
  have dm : ∀ a, H a ≠ none → upd H p (.lst ws) a ≠ none := fun a h => by
    by_cases z : a = p
    · rw [z, upd_same]; exact fun z => nomatch z
    · rw [upd_ne z]; exact h
  refine ⟨⟨W.loc g H _ r.j fun a o h e => by rw [upd_ne (fun z => (r.own p hp).2 (by rw [← z]; exact h))]; exact e, fun a h => dm a (r.m0 a h), by rw [eo]; exact r.own, by rw [eo]; exact r.nd, by rw [List.length_set, r.len], fun k t ht => ?_⟩,
    ⟨fun a o h n hn => by rw [upd_ne (fun z => hn (by rw [z]; exact hp))]; exact h, dm, fun q hq => .inl (by rw [eo] at hq; exact hq)⟩⟩
  rw [mm]
  by_cases hk : k = i
  · subst hk
    have hl : k < ρ.length := (List.getElem?_eq_some_iff.mp hi).1
    rw [List.getElem?_set_self hl] at ht
    cases ht
    have q := r.sl k _ hi
    exact ⟨q.1, ws, upd_same, Rs.mv kp (fun _ _ z => z) es ws hr⟩
  · rw [List.getElem?_set_ne (Ne.symm hk)] at ht
    have q := r.sl k t ht
    cases t with
    | no => trivial
    | val d =>
      obtain ⟨w, a, b⟩ := q
      exact ⟨w, a, R.mv kp (fun _ _ z => z) d w b⟩
    | own q' es' =>
      obtain ⟨a, ws', b, c⟩ := q
      have ne : q' ≠ p := fun z => by
        subst z
        -- two slots with the same own list
        have := r.nd
        exact hk (own_inj ρ k i this ht hi)
      exact ⟨a, ws', by rw [upd_ne ne]; exact b, Rs.mv kp (fun _ _ z => z) es' ws' c⟩
/-- the def's own list is held as a datum from now on -/
theorem RS.freeze (r : RS W M0 g ρ σ H) {i : Nat} {p : Addr} {ds : List D} (hi : ρ[i]? = some (.own p ds)) : RS W M0 g (ρ.set i (.val (.lst ds))) σ H := by
  obtain ⟨e1, vs, hp, hr⟩ := r.sl i _ hi
  have hpo : p ∈ owns ρ := mem_owns.mpr ⟨i, ds, hi⟩
  have e : σ.set i (some (.ref p)) = σ := by
    apply List.ext_getElem?
    intro k
    by_cases hk : k = i
    · subst hk
      have hl : k < σ.length := by rw [← r.len]; exact (List.getElem?_eq_some_iff.mp hi).1
      rw [List.getElem?_set_self hl, e1]
    · rw [List.getElem?_set_ne (Ne.symm hk)]
  have q := r.setS (i := i) (s := .val (.lst ds)) (x := some (.ref p)) rfl ⟨_, rfl, p, vs, rfl, ?_, hp, Rs.mv (fun _ _ h _ => h) (fun _ _ z => MM_set rfl z) ds vs hr⟩
  · rw [e] at q; exact q
  · rintro (z | z | z)
    · exact (r.own p hpo).1 z
    · exact (r.own p hpo).2 z
    · exact owns_gone ρ i r.nd hi rfl z
end
end Co
/-! PL4: tests, displays, subscripts, calls. -/
namespace Co
open PySem PySem.Spec PyProof.Rows L2

section
variable {γ : Type} {X : Cx} {W : Wd γ} {g : γ} {ρ : Sl} {e a b c : Expr} {es rest : List Expr} {φ : D → γ → Prop} {ψ : Bool → γ → Prop} {pos : Pos}

/-! ### tests -/
theorem tv_val (h : PEv X W g ρ e fun d g' => ∃ c, d = .bl c ∧ ψ c g') (he : ∀ whole, isTrue e X.env whole = (do let v ← whole; standAt e.pos; holding [v] (truthy v)) := by intro _; rfl) : PTv X W g ρ e ψ := fun M0 σ H Q r k =>
  toT (pt_val pe_c he) (h M0 σ H _ r fun v d g' H' x j rv p => by
    obtain ⟨c, rfl, p⟩ := p
    exact ⟨c, rv, k c g' H' x j p⟩)
theorem tv_w (h : PWv X W g ρ e ψ) : PTv X W g ρ e ψ := fun M0 σ H Q r k => toT pw_c.pt (h M0 σ H Q r k)
theorem wv_and (h : PTv X W g ρ a fun c g1 => (c = true → PWv X W g1 ρ (.BoolOp .And (b :: rest) pos) ψ) ∧ (c = false → ψ false g1)) : PWv X W g ρ (.BoolOp .And (a :: b :: rest) pos) ψ := fun M0 σ H Q r k =>
  toW (pw_and pt_c pw_c) (h M0 σ H _ r fun c g1 H1 x j p => by
    cases c with
    | true => rw [if_pos rfl]; exact p.1 rfl M0 σ H1 Q (r.ext x j) fun d g2 H2 x2 j2 q => k d g2 H2 (x.trans x2) j2 q
    | false => rw [if_neg Bool.false_ne_true]; exact k false g1 H1 x j (p.2 rfl))
theorem wv_or (h : PTv X W g ρ a fun c g1 => (c = false → PWv X W g1 ρ (.BoolOp .Or (b :: rest) pos) ψ) ∧ (c = true → ψ true g1)) : PWv X W g ρ (.BoolOp .Or (a :: b :: rest) pos) ψ := fun M0 σ H Q r k =>
  toW (pw_or pt_c pw_c) (h M0 σ H _ r fun c g1 H1 x j p => by
    cases c with
    | true => rw [if_pos rfl]; exact k true g1 H1 x j (p.2 rfl)
    | false => rw [if_neg Bool.false_ne_true]; exact p.1 rfl M0 σ H1 Q (r.ext x j) fun d g2 H2 x2 j2 q => k d g2 H2 (x.trans x2) j2 q)
theorem wv_and1 (h : PTv X W g ρ a ψ) : PWv X W g ρ (.BoolOp .And [a] pos) ψ := fun M0 σ H Q r k => toW (pw_and1 pt_c) (h M0 σ H Q r k)
theorem wv_or1 (h : PTv X W g ρ a ψ) : PWv X W g ρ (.BoolOp .Or [a] pos) ψ := fun M0 σ H Q r k => toW (pw_or1 pt_c) (h M0 σ H Q r k)
theorem tv_not (h : PTv X W g ρ a fun c g1 => ψ (!c) g1) : PTv X W g ρ (.UnaryOp .Not a pos) ψ := fun M0 σ H Q r k => toT (pt_not pt_c) (h M0 σ H _ r fun c g1 H1 x j p => k (!c) g1 H1 x j p)
/-- as values, all bools -/
theorem ev_one {op : BoolOp} (h : PEv X W g ρ a φ) : PEv X W g ρ (.BoolOp op [a] pos) φ := fun M0 σ H Q r k => toE (pe_one pe_c) (h M0 σ H Q r k)
theorem ev_and (h : PEv X W g ρ a fun d g1 => ∃ c, d = .bl c ∧ (c = true → PEv X W g1 ρ (.BoolOp .And (b :: rest) pos) φ) ∧ (c = false → φ (.bl false) g1)) : PEv X W g ρ (.BoolOp .And (a :: b :: rest) pos) φ := fun M0 σ H Q r k =>
  toE (pe_and pe_c pe_c) (h M0 σ H _ r fun v d g1 H1 x j rv p => by
    obtain ⟨c, rfl, p⟩ := p
    refine ⟨c, rv, ?_⟩
    cases c with
    | true => rw [if_pos rfl]; exact p.1 rfl M0 σ H1 Q (r.ext x j) fun v d g2 H2 x2 j2 r2 q => k v d g2 H2 (x.trans x2) j2 r2 q
    | false => rw [if_neg Bool.false_ne_true]; exact k _ (.bl false) g1 H1 x j rfl (p.2 rfl))
theorem ev_or (h : PEv X W g ρ a fun d g1 => ∃ c, d = .bl c ∧ (c = false → PEv X W g1 ρ (.BoolOp .Or (b :: rest) pos) φ) ∧ (c = true → φ (.bl true) g1)) : PEv X W g ρ (.BoolOp .Or (a :: b :: rest) pos) φ := fun M0 σ H Q r k =>
  toE (pe_or pe_c pe_c) (h M0 σ H _ r fun v d g1 H1 x j rv p => by
    obtain ⟨c, rfl, p⟩ := p
    refine ⟨c, rv, ?_⟩
    cases c with
    | true => rw [if_pos rfl]; exact k _ (.bl true) g1 H1 x j rfl (p.2 rfl)
    | false => rw [if_neg Bool.false_ne_true]; exact p.1 rfl M0 σ H1 Q (r.ext x j) fun v d g2 H2 x2 j2 r2 q => k v d g2 H2 (x.trans x2) j2 r2 q)
theorem ev_not (h : PEv X W g ρ a fun d g1 => ∃ c, d = .bl c ∧ φ (.bl (!c)) g1) : PEv X W g ρ (.UnaryOp .Not a pos) φ := fun M0 σ H Q r k =>
  toE (pe_not pe_c) (h M0 σ H _ r fun v d g1 H1 x j rv p => by
    obtain ⟨c, rfl, p⟩ := p
    exact ⟨c, rv, k _ (.bl (!c)) g1 H1 x j rfl p⟩)
theorem ev_if (h : PTv X W g ρ c fun k g1 => (k = true → PEv X W g1 ρ a φ) ∧ (k = false → PEv X W g1 ρ b φ)) : PEv X W g ρ (.IfExp c a b pos) φ := fun M0 σ H Q r k =>
  toE (pe_ifExp pt_c pe_c pe_c) (h M0 σ H _ r fun d g1 H1 x j p => by
    cases d with
    | true => rw [if_pos rfl]; exact p.1 rfl M0 σ H1 Q (r.ext x j) fun v d g2 H2 x2 j2 r2 q => k v d g2 H2 (x.trans x2) j2 r2 q
    | false => rw [if_neg Bool.false_ne_true]; exact p.2 rfl M0 σ H1 Q (r.ext x j) fun v d g2 H2 x2 j2 r2 q => k v d g2 H2 (x.trans x2) j2 r2 q)
theorem ev_neg (h : PEv X W g ρ a fun d g1 => ∃ i, d = .int i ∧ φ (.int (-i)) g1) : PEv X W g ρ (.UnaryOp .USub a pos) φ := fun M0 σ H Q r k =>
  toE (pe_un un_neg pe_c) (h M0 σ H _ r fun v d g1 H1 x j rv p => by
    obtain ⟨i, rfl, p⟩ := p
    exact ⟨i, rv, k _ (.int (-i)) g1 H1 x j rfl p⟩)
/-- a < b <= c of ints -/
theorem ev_chain {op op' : CmpOp} {k k' : Int → Int → Bool} (ho : OpR X (compareOp op) (rI0 fun i j => .bl (k i j))) (ho' : OpR X (compareOp op') (rI0 fun i j => .bl (k' i j)))
    (h : PEv X W g ρ a fun x g1 => ∃ i, x = .int i ∧ PEv X W g1 ρ b fun y g2 => ∃ j, y = .int j ∧ (k i j = true → PEv X W g2 ρ c fun z g3 => ∃ l, z = .int l ∧ φ (.bl (k' j l)) g3) ∧ (k i j = false → φ (.bl false) g2))
    (hm : lastMarks [op, op'] [b, c] = false := by with_unfolding_all rfl) : PEv X W g ρ (.Compare a [op, op'] [b, c] pos) φ := fun M0 σ H Q r q =>
  toE (pe_chain ho ho' pe_c pe_c pe_c hm) (h M0 σ H _ r fun v d g1 H1 x1 j1 rv p => by
    obtain ⟨i, rfl, p⟩ := p
    refine p M0 σ H1 _ (r.ext x1 j1) fun v2 d2 g2 H2 x2 j2 r2 p => ?_
    obtain ⟨j, rfl, pt, pf⟩ := p
    refine ⟨i, j, rv, r2, k i j, rfl, ?_⟩
    cases hk : k i j with
    | true =>
      rw [if_pos rfl]
      refine pt hk M0 σ H2 _ ((r.ext x1 j1).ext x2 j2) fun v3 d3 g3 H3 x3 j3 r3 p => ?_
      obtain ⟨l, rfl, p⟩ := p
      exact ⟨j, l, r2, r3, q _ (.bl (k' j l)) g3 H3 ((x1.trans x2).trans x3) j3 rfl p⟩
    | false =>
      rw [if_neg Bool.false_ne_true]
      exact q _ (.bl false) g2 H2 (x1.trans x2) j2 rfl (pf hk))
theorem tv_chain {op op' : CmpOp} {k k' : Int → Int → Bool} (ho : OpR X (compareOp op) (rI0 fun i j => .bl (k i j))) (ho' : OpR X (compareOp op') (rI0 fun i j => .bl (k' i j)))
    (h : PEv X W g ρ a fun x g1 => ∃ i, x = .int i ∧ PEv X W g1 ρ b fun y g2 => ∃ j, y = .int j ∧ (k i j = true → PEv X W g2 ρ c fun z g3 => ∃ l, z = .int l ∧ ψ (k' j l) g3) ∧ (k i j = false → ψ false g2))
    (hm : lastMarks [op, op'] [b, c] = false := by with_unfolding_all rfl) : PTv X W g ρ (.Compare a [op, op'] [b, c] pos) ψ := fun M0 σ H Q r q =>
  toT (pt_chain ho ho' pe_c pe_c pe_c hm) (h M0 σ H _ r fun v d g1 H1 x1 j1 rv p => by
    obtain ⟨i, rfl, p⟩ := p
    refine p M0 σ H1 _ (r.ext x1 j1) fun v2 d2 g2 H2 x2 j2 r2 p => ?_
    obtain ⟨j, rfl, pt, pf⟩ := p
    refine ⟨i, j, rv, r2, k i j, rfl, ?_⟩
    cases hk : k i j with
    | true =>
      rw [if_pos rfl]
      refine pt hk M0 σ H2 _ ((r.ext x1 j1).ext x2 j2) fun v3 d3 g3 H3 x3 j3 r3 p => ?_
      obtain ⟨l, rfl, p⟩ := p
      exact ⟨j, l, r2, r3, _, rfl, q (k' j l) g3 H3 ((x1.trans x2).trans x3) j3 p⟩
    | false =>
      rw [if_neg Bool.false_ne_true]
      exact ⟨false, rfl, q false g2 H2 (x1.trans x2) j2 (pf hk)⟩)

/-! ### arguments, displays -/
theorem av_nil {φ : List D → γ → Prop} (h : φ [] g) : PAv X W g ρ [] φ := fun M0 σ H Q r k => toA pa_nil (k [] [] g H Ext.refl r.j rfl h)
theorem av_cons {φ : List D → γ → Prop} (h : PEv X W g ρ e fun d g1 => PAv X W g1 ρ es fun ds g2 => φ (d :: ds) g2) (hs : starEach (e :: es) X.env = (false, eval e X.env) :: starEach es X.env := by rfl) : PAv X W g ρ (e :: es) φ := fun M0 σ H Q r k =>
  toA (pa_cons pe_c pa_c hs) (h M0 σ H _ r fun v d g1 H1 x1 j1 r1 p => p M0 σ H1 _ (r.ext x1 j1) fun vs ds g2 H2 x2 j2 r2 q => k (v :: vs) (d :: ds) g2 H2 (x1.trans x2) j2 ⟨v, vs, rfl, RS.mono x2 r1, r2⟩ q)
theorem ab_nil {φ : List D → γ → Prop} (h : φ [] g) : PAb X W g ρ [] φ := fun M0 σ H Q r k => toA pa_nil (k [] [] g H Ext.refl r.j rfl h)
theorem ab_cons {φ : List D → γ → Prop} (h : PEb X W g ρ e fun d g1 => PAb X W g1 ρ es fun ds g2 => φ (d :: ds) g2) (hs : starEach (e :: es) X.env = (false, eval e X.env) :: starEach es X.env := by rfl) : PAb X W g ρ (e :: es) φ := fun M0 σ H Q r k =>
  toA (pa_cons pe_c pa_c hs) (h M0 σ H _ r fun v d g1 H1 x1 j1 r1 p => p M0 σ H1 _ (r.ext x1 j1) fun vs ds g2 H2 x2 j2 r2 q => k (v :: vs) (d :: ds) g2 H2 (x1.trans x2) j2 ⟨v, vs, rfl, RS.monoB x2 r1, r2⟩ q)
/-- a datum that is walked: a list or a tuple -/
def Seqd : D → Option (List D)
  | .tup ds => some ds
  | .lst ds => some ds
  | _ => none
theorem RB.seq {M N : Addr → Prop} {K : PySem.W.Frag} {H : Hp} {d : D} {ds : List D} {v : V} (h : RB M N H d v) (hd : Seqd d = some ds) : ∃ p vs, v = .ref p ∧ Rs M H ds vs ∧ ((H p = some (.lst vs) ∧ d = .lst ds) ∨ (H p = some (.tup vs) ∧ d = .tup ds)) := by
  cases d with
  | tup es =>
    cases hd
    obtain ⟨p, vs, e, hp, q⟩ := h.tup
    exact ⟨p, vs, e, q, .inr ⟨hp, rfl⟩⟩
  | lst es =>
    cases hd
    obtain ⟨p, vs, e, hp, q⟩ := h.lst
    exact ⟨p, vs, e, q, .inl ⟨hp, rfl⟩⟩
  | _ => cases hd
/-- *e in a display -/
theorem av_star {φ : List D → γ → Prop} {p : Pos} (h : PEb X W g ρ e fun d g1 => ∃ ds, Seqd d = some ds ∧ PAv X W g1 ρ es fun es g2 => φ (ds ++ es) g2) (hs : starEach (.Starred e p :: es) X.env = (true, eval e X.env) :: starEach es X.env := by rfl) : PAv X W g ρ (.Starred e p :: es) φ := fun M0 σ H Q r k =>
  toA (StX.pa_star pe_c pa_c hs) (h M0 σ H _ r fun v d g1 H1 x1 j1 r1 p => by
    obtain ⟨ds, hd, p⟩ := p
    obtain ⟨a, vs, rfl, q, hh⟩ := r1.seq (K := X.K) hd
    refine ⟨a, vs, rfl, ?_, p M0 σ H1 _ (r.ext x1 j1) fun ws es g2 H2 x2 j2 r2 q2 => k (vs ++ ws) (ds ++ es) g2 H2 (x1.trans x2) j2 ((RS.monos x2 q).append r2) q2⟩
    rcases hh with ⟨hh, _⟩ | ⟨hh, _⟩
    · exact .inr (SqL.of hh)
    · exact .inl (SqT.of hh))
theorem line_of {n : Nat} (h : n ≤ 1000000) : n ≤ sizeLine := by rw [sizeLine_eq]; omega
theorem ev_tup {x1 : Nat} (h : PAv X W g ρ es fun ds g' => ds.length ≤ sizeLine ∧ φ (.tup ds) g') : PEv X W g ρ (.Tuple es x1 pos) φ := fun M0 σ H Q r k =>
  toE (pe_tup pa_c) (h M0 σ H _ r fun vs ds g1 H1 x1 j1 r1 p => ⟨by rw [r1.length]; exact p.1, fun q hq => by
    have sm := same_new (o := HO.tup vs) hq
    have r' := r.ext x1 j1
    refine k _ (.tup ds) g1 _ (x1.trans (Ext.of_same sm)) (W.same j1 sm) ⟨q, vs, rfl, r'.fresh hq, upd_same, ?_⟩ p.2
    exact Rs.mv (fun a o ha n => sm a o ha) (fun _ _ z => z) ds vs r1⟩)
theorem ef_lst {φ : List D → γ → Prop} (h : PAv X W g ρ es fun ds g' => ds.length ≤ sizeLine ∧ φ ds g') : PEf X W g ρ (.List es pos) φ := fun M0 σ H Q r k =>
  toE (pe_lst pa_c) (h M0 σ H _ r fun vs ds g1 H1 x1 j1 r1 p => ⟨by rw [r1.length]; exact p.1, fun q hq => by
    have sm := same_new (o := HO.lst vs) hq
    have hq0 : H q = none := by
      cases z : H q with
      | none => rfl
      | some o => exact absurd hq (x1.dm q (by rw [z]; exact fun z => nomatch z))
    refine k q vs ds g1 _ (x1.trans (Ext.of_same sm)) (W.same j1 sm) hq0 upd_same ?_ p.2
    refine Rs.mv (fun a o ha n => sm a o ha) (fun a ha z => ?_) ds vs r1
    rcases z with z | z
    · exact z
    · rw [z] at ha; exact absurd hq ha⟩)
theorem ev_lst (h : PAv X W g ρ es fun ds g' => ds.length ≤ sizeLine ∧ φ (.lst ds) g') : PEv X W g ρ (.List es pos) φ := (ef_lst h).ev

/-! ### subscripts -/
/-- an item of a list, a tuple -/
theorem ev_ix (h : PEb X W g ρ a fun d g1 => ∃ ds, Seqd d = some ds ∧ PEv X W g1 ρ b fun y g2 => ∃ i z, y = .int i ∧ atI ds i = some z ∧ φ z g2) (hs : PlainIx b := by intro _ _; rfl) : PEv X W g ρ (.Subscript a b pos) φ := fun M0 σ H Q r k =>
  toE (pe_ix (ix_list.or ix_tup) pe_c pe_c hs) (h M0 σ H _ r fun v d g1 H1 x1 j1 r1 p => by
    obtain ⟨ds, hd, p⟩ := p
    refine p M0 σ H1 _ (r.ext x1 j1) fun v2 y g2 H2 x2 j2 r2 p => ?_
    obtain ⟨i, z, rfl, ha, p⟩ := p
    obtain ⟨q, vs, rfl, rs, hh⟩ := (RS.monoB x2 r1).seq (K := X.K) hd
    have hl := rs.length
    obtain ⟨w, hw, rw'⟩ : ∃ w, atI vs i = some w ∧ R (MM W M0 ρ) H2 z w := by
      unfold atI at ha ⊢
      rw [hl]
      cases e : ixN ds.length i with
      | none => rw [e] at ha; cases ha
      | some n =>
        rw [e] at ha
        obtain ⟨w, h1, h2⟩ := rs.get ha
        exact ⟨w, h1, h2⟩
    have kk := k w z g2 H2 (x1.trans x2) j2 rw' p
    rcases hh with ⟨hh, _⟩ | ⟨hh, _⟩
    · exact .inl ⟨q, vs, i, w, rfl, r2, SqL.of hh, hw, kk⟩
    · exact .inr ⟨q, vs, i, w, rfl, r2, SqT.of hh, hw, kk⟩)
/-- an item of the script -/
theorem ev_ixF (h : PEb X W g ρ a fun d g1 => ∃ ds, d = .frz ds ∧ PEv X W g1 ρ b fun y g2 => ∃ i z, y = .int i ∧ atI ds i = some z ∧ φ z g2) (hs : PlainIx b := by intro _ _; rfl) : PEv X W g ρ (.Subscript a b pos) φ := fun M0 σ H Q r k =>
  toE (pe_ix ix_list pe_c pe_c hs) (h M0 σ H _ r fun v d g1 H1 x1 j1 r1 p => by
    obtain ⟨ds, rfl, p⟩ := p
    refine p M0 σ H1 _ (r.ext x1 j1) fun v2 y g2 H2 x2 j2 r2 p => ?_
    obtain ⟨i, z, rfl, ha, p⟩ := p
    obtain ⟨q, o, vs, rfl, hh, rs⟩ := (RS.monoB x2 r1).frz
    have hl := rs.length
    obtain ⟨w, hw, rw'⟩ : ∃ w, atI vs i = some w ∧ R (MM W M0 ρ) H2 z w := by
      unfold atI at ha ⊢
      rw [hl]
      cases e : ixN ds.length i with
      | none => rw [e] at ha; cases ha
      | some n =>
        rw [e] at ha
        obtain ⟨w, h1, h2⟩ := rs.get ha
        exact ⟨w, h1, h2⟩
    exact ⟨q, vs, i, w, rfl, r2, .inl (.inr ⟨o, hh⟩), hw, k w z g2 H2 (x1.trans x2) j2 rw' p⟩)
/-- a sign of a text -/
theorem ev_ixS (h : PEv X W g ρ a fun d g1 => ∃ x : Str, d = .str x ∧ PEv X W g1 ρ b fun y g2 => ∃ i c, y = .int i ∧ x.length ≤ 1000000 ∧ atI x.cps.toList i = some c ∧ φ (.str ⟨#[c]⟩) g2) (hs : PlainIx b := by intro _ _; rfl) : PEv X W g ρ (.Subscript a b pos) φ := fun M0 σ H Q r k =>
  toE (pe_ix ix_str pe_c pe_c hs) (h M0 σ H _ r fun v d g1 H1 x1 j1 r1 p => by
    obtain ⟨x, rfl, p⟩ := p
    refine p M0 σ H1 _ (r.ext x1 j1) fun v2 y g2 H2 x2 j2 r2 p => ?_
    obtain ⟨i, c, rfl, hl, ha, p⟩ := p
    exact ⟨x, i, c, r1, r2, line_of hl, ha, k _ (.str ⟨#[c]⟩) g2 H2 (x1.trans x2) j2 rfl p⟩)
/-- a slice's part -/
theorem ov_none {φ : Option Int → γ → Prop} (h : φ none g) : POv X W g ρ none φ := fun M0 σ H Q r k => toO po_none (k none g H Ext.refl r.j h)
theorem ov_some {φ : Option Int → γ → Prop} (h : PEv X W g ρ e fun d g1 => ∃ i, d = .int i ∧ φ (some i) g1) : POv X W g ρ (some e) φ := fun M0 σ H Q r k =>
  toO (po_some pe_c) (h M0 σ H _ r fun v d g1 H1 x1 j1 r1 p => by
    obtain ⟨i, rfl, p⟩ := p
    exact ⟨i, r1, k (some i) g1 H1 x1 j1 p⟩)
/-- the items of ds[lo:hi] -/
def cutD (ds : List D) (lo hi : Option Int) : List D := (ds.drop (HT.sIx ds.length 0 lo)).take (HT.sIx ds.length ds.length hi - HT.sIx ds.length 0 lo)
theorem cut_rs {M : Addr → Prop} {H : Hp} {ds : List D} {vs : List V} (h : Rs M H ds vs) (lo hi : Option Int) : Rs M H (cutD ds lo hi) (cutV vs lo hi) := by
  unfold cutD cutV
  rw [h.length]
  exact (h.drop _).take _
variable {lo hi : Option Expr} {p2 : Pos}
theorem ef_slice {φ : List D → γ → Prop} (h : PEb X W g ρ a fun d g1 => ∃ ds, d = .lst ds ∧ POv X W g1 ρ lo fun l g2 => POv X W g2 ρ hi fun u g3 => φ (cutD ds l u) g3) : PEf X W g ρ (.Subscript a (.Slice lo hi none p2) pos) φ := fun M0 σ H Q r k =>
  toE (pe_slice sl_list pe_c po_c po_c) (h M0 σ H _ r fun v d g1 H1 x1 j1 r1 p => by
    obtain ⟨ds, rfl, p⟩ := p
    refine p M0 σ H1 _ (r.ext x1 j1) fun l g2 H2 x2 j2 p => ?_
    refine p M0 σ H2 _ ((r.ext x1 j1).ext x2 j2) fun u g3 H3 x3 j3 p => ?_
    obtain ⟨q, vs, rfl, hq, rs⟩ := (RS.monoB x3 (RS.monoB x2 r1)).lst
    refine ⟨q, vs, rfl, SqL.of hq, fun n hn => ?_⟩
    have sm := same_new (o := HO.lst (cutV vs l u)) hn
    have e := (x1.trans x2).trans x3
    have hq0 : H n = none := by
      cases z : H n with
      | none => rfl
      | some o => exact absurd hn (e.dm n (by rw [z]; exact fun z => nomatch z))
    refine k n _ (cutD ds l u) g3 _ (e.trans (Ext.of_same sm)) (W.same j3 sm) hq0 upd_same ?_ p
    refine Rs.mv (fun a o ha n => sm a o ha) (fun a ha z => ?_) _ _ (cut_rs rs l u)
    rcases z with z | z
    · exact z
    · rw [z] at ha; exact absurd hn ha)
theorem ev_slice (h : PEb X W g ρ a fun d g1 => ∃ ds, d = .lst ds ∧ POv X W g1 ρ lo fun l g2 => POv X W g2 ρ hi fun u g3 => φ (.lst (cutD ds l u)) g3) : PEv X W g ρ (.Subscript a (.Slice lo hi none p2) pos) φ := (ef_slice h).ev
end
end Co
/-! PL5: operators on texts, sequences; built-in functions; promises and calls. -/
namespace Co
open PySem PySem.Spec PyProof.Rows L2

section
variable {γ : Type} {X : Cx} {W : Wd γ} {g : γ} {ρ : Sl} {e a b c : Expr} {es rest : List Expr} {φ : D → γ → Prop} {pos : Pos} {ψ : D → Prop}

/-! ### == of plain data -/
mutual
def D.py : D → PyData
  | .non => .none
  | .bl b => .bool b
  | .int i => .int i
  | .str x => .str x
  | .ref _ => .none
  | .tup ds => .tuple (D.pys ds)
  | .lst ds => .list (D.pys ds)
  | .frz ds => .list (D.pys ds)
def D.pys : List D → List PyData
  | [] => []
  | d :: ds => d.py :: D.pys ds
end
mutual
/-- no object, no text that is not one -/
def D.ok : D → Bool
  | .str x => PyData.canLay0 (.str x)
  | .ref _ => false
  | .tup ds => D.oks ds
  | .lst ds => D.oks ds
  | .frz ds => D.oks ds
  | _ => true
def D.oks : List D → Bool
  | [] => true
  | d :: ds => d.ok && D.oks ds
end
mutual
theorem R.dp {K : PySem.W.Frag} {M : Addr → Prop} {H : Hp} : ∀ (d : D) (v : V), R M H d v → d.ok = true → Dp K H v d.py
  | .non, v, h, _ => by cases h; exact .non
  | .bl b, v, h, _ => by cases h; exact .bl b
  | .int i, v, h, _ => by cases h; exact .int i
  | .str x, v, h, _ => by cases h; exact .str x
  | .ref a, v, h, o => by cases o
  | .tup ds, v, h, o => by
    obtain ⟨a, vs, rfl, _, ha, q⟩ := h
    exact .tup (SqT.of ha) (Rs.dp ds vs q o)
  | .lst ds, v, h, o => by
    obtain ⟨a, vs, rfl, _, ha, q⟩ := h
    exact .lst (SqL.of ha) (Rs.dp ds vs q o)
  | .frz ds, v, h, o => by
    obtain ⟨a, ob, vs, rfl, _, ha, q⟩ := h
    exact .lst (.inl (.inr ⟨ob, ha⟩)) (Rs.dp ds vs q o)
theorem Rs.dp {K : PySem.W.Frag} {M : Addr → Prop} {H : Hp} : ∀ (ds : List D) (vs : List V), Rs M H ds vs → D.oks ds = true → DpAll K H vs (D.pys ds)
  | [], vs, h, _ => by cases h; exact .nil
  | d :: ds, vs, h, o => by
    obtain ⟨v, r, rfl, a, b⟩ := h
    have o := Bool.and_eq_true_iff.mp (show (d.ok && D.oks ds) = true from o)
    exact .cons (R.dp d v a o.1) (Rs.dp ds r b o.2)
end
theorem RB.dp {K : PySem.W.Frag} {M N : Addr → Prop} {H : Hp} {d : D} {v : V} (h : RB M N H d v) (o : d.ok = true) : Dp K H v d.py := by
  rcases h with h | ⟨p, ds, vs, rfl, rfl, _, hp, q⟩
  · exact R.dp d v h o
  · exact .lst (SqL.of hp) (Rs.dp ds vs q o)
mutual
theorem D.canLay : ∀ d : D, d.ok = true → d.py.canLay0 = true
  | .non, _ => rfl
  | .bl _, _ => rfl
  | .int _, _ => rfl
  | .str x, o => o
  | .ref _, o => by cases o
  | .tup ds, o => D.canLays ds o
  | .lst ds, o => D.canLays ds o
  | .frz ds, o => D.canLays ds o
theorem D.canLays : ∀ ds : List D, D.oks ds = true → PyData.canLayAll0 (D.pys ds) = true
  | [], _ => rfl
  | d :: ds, o => by
    have o := Bool.and_eq_true_iff.mp (show (d.ok && D.oks ds) = true from o)
    show (d.py.canLay0 && PyData.canLayAll0 (D.pys ds)) = true
    rw [D.canLay d o.1, D.canLays ds o.2]; rfl
end
/-- the answer of == -/
def D.eqv (d e : D) : Bool := PyData.eqv d.py e.py
theorem od_eq {x y : D} (hu : X.A.units + 64 < cLine) (ox : x.ok = true) (oy : y.ok = true) (dx : x.py.depth ≤ 64) (dy : y.py.depth ≤ 64) (h : ψ (.bl (x.eqv y))) : OpD X (compareOp .Eq) x y ψ :=
  OpD.of (op_eqD hu) fun M N H v w Q bx byy _ q => ⟨x.py, y.py, bx.dp ox, byy.dp oy, by unfold SeqAt.shaped; rw [x.canLay ox, decide_eq_true dx]; rfl, by unfold SeqAt.shaped; rw [y.canLay oy, decide_eq_true dy]; rfl, q _ (.bl (x.eqv y)) H (Same.refl H) rfl h⟩
theorem od_ne {x y : D} (hu : X.A.units + 64 < cLine) (ox : x.ok = true) (oy : y.ok = true) (dx : x.py.depth ≤ 64) (dy : y.py.depth ≤ 64) (h : ψ (.bl (!x.eqv y))) : OpD X (compareOp .NotEq) x y ψ :=
  OpD.of (op_neD hu) fun M N H v w Q bx byy _ q => ⟨x.py, y.py, bx.dp ox, byy.dp oy, by unfold SeqAt.shaped; rw [x.canLay ox, decide_eq_true dx]; rfl, by unfold SeqAt.shaped; rw [y.canLay oy, decide_eq_true dy]; rfl, q _ (.bl (!x.eqv y)) H (Same.refl H) rfl h⟩
/-- scalars -/
theorem od_eqI {i j : Int} (h : ψ (.bl (decide (i = j)))) : OpD X (compareOp .Eq) (.int i) (.int j) ψ :=
  OpD.of op_eq fun M N H v w Q bx byy _ q => by
    rw [bx.int, byy.int]
    exact ⟨rfl, q _ (.bl (decide (i = j))) H (Same.refl H) (by show V.bl (decide (V.int i = V.int j)) = V.bl _; congr 1; exact decide_eq_decide.mpr ⟨fun z => V.int.inj z, fun z => by rw [z]⟩) h⟩
theorem od_neI {i j : Int} (h : ψ (.bl (!decide (i = j)))) : OpD X (compareOp .NotEq) (.int i) (.int j) ψ :=
  OpD.of op_ne fun M N H v w Q bx byy _ q => by
    rw [bx.int, byy.int]
    exact ⟨rfl, q _ (.bl (!decide (i = j))) H (Same.refl H) (by show V.bl (!decide (V.int i = V.int j)) = V.bl _; congr 2; exact decide_eq_decide.mpr ⟨fun z => V.int.inj z, fun z => by rw [z]⟩) h⟩
theorem od_eqS {i j : Str} (h : ψ (.bl (decide (i = j)))) : OpD X (compareOp .Eq) (.str i) (.str j) ψ :=
  OpD.of op_eq fun M N H v w Q bx byy _ q => by
    rw [bx.str, byy.str]
    exact ⟨rfl, q _ (.bl (decide (i = j))) H (Same.refl H) (by show V.bl (decide (V.str i = V.str j)) = V.bl _; congr 1; exact decide_eq_decide.mpr ⟨fun z => V.str.inj z, fun z => by rw [z]⟩) h⟩
theorem od_neS {i j : Str} (h : ψ (.bl (!decide (i = j)))) : OpD X (compareOp .NotEq) (.str i) (.str j) ψ :=
  OpD.of op_ne fun M N H v w Q bx byy _ q => by
    rw [bx.str, byy.str]
    exact ⟨rfl, q _ (.bl (!decide (i = j))) H (Same.refl H) (by show V.bl (!decide (V.str i = V.str j)) = V.bl _; congr 2; exact decide_eq_decide.mpr ⟨fun z => V.str.inj z, fun z => by rw [z]⟩) h⟩
/-- is None -/
def D.isN : D → Bool
  | .non => true
  | _ => false
theorem RB.isN {M N : Addr → Prop} {H : Hp} {d : D} {v : V} (h : RB M N H d v) : decide (v = .non) = d.isN := by
  cases d with
  | non => rw [h.non]; rfl
  | bl b => rw [h.bl]; rfl
  | int b => rw [h.int]; rfl
  | str b => rw [h.str]; rfl
  | ref b => rw [h.ref]; rfl
  | tup ds => obtain ⟨p, vs, rfl, _⟩ := h.tup; rfl
  | lst ds => obtain ⟨p, vs, rfl, _⟩ := h.lst; rfl
  | frz ds => obtain ⟨p, o, vs, rfl, _⟩ := h.frz; rfl
theorem od_isN {x : D} (h : ψ (.bl x.isN)) : OpD X (compareOp .Is) x .non ψ :=
  OpD.of op_isN fun M N H v w Q bx byy _ q => by rw [byy.non]; exact ⟨rfl, q _ (.bl x.isN) H (Same.refl H) (by show V.bl _ = V.bl _; rw [bx.isN]) h⟩
theorem od_notN {x : D} (h : ψ (.bl (!x.isN))) : OpD X (compareOp .IsNot) x .non ψ :=
  OpD.of op_notN fun M N H v w Q bx byy _ q => by rw [byy.non]; exact ⟨rfl, q _ (.bl (!x.isN)) H (Same.refl H) (by show V.bl _ = V.bl _; rw [bx.isN]) h⟩
/-- a sign in a text -/
theorem od_in {k : Nat} {z : Str} (h : ψ (.bl (decide (k ∈ z.cps.toList)))) : OpD X (compareOp .In) (.str ⟨#[k]⟩) (.str z) ψ :=
  OpD.of op_in_sign fun M N H v w Q bx byy _ q => ⟨k, z, bx.str, byy.str, q _ (.bl _) H (Same.refl H) rfl h⟩

/-! ### + of texts, lists, tuples; a list many times -/
theorem od_addS {x y : Str} (hl : x.length + y.length ≤ 1000000) (h : ψ (.str (x ++ y))) : OpD X (binaryOp .Add) (.str x) (.str y) ψ :=
  OpD.of op_add_str fun M N H v w Q bx byy _ q => ⟨x, y, bx.str, byy.str, line_of hl, q _ (.str (x ++ y)) H (Same.refl H) rfl h⟩
theorem r_fresh {M : Addr → Prop} {H : Hp} {p : Addr} {ds : List D} {vs : List V} (hp : H p = none) (dm : ∀ a, M a → H a ≠ none) (h : Rs M H ds vs) : R M (upd H p (.lst vs)) (.lst ds) (.ref p) :=
  ⟨p, vs, rfl, fun z => dm p z hp, upd_same, Rs.mv (fun a o ha _ => same_new hp a o ha) (fun _ _ z => z) ds vs h⟩
theorem r_freshT {M : Addr → Prop} {H : Hp} {p : Addr} {ds : List D} {vs : List V} (hp : H p = none) (dm : ∀ a, M a → H a ≠ none) (h : Rs M H ds vs) : R M (upd H p (.tup vs)) (.tup ds) (.ref p) :=
  ⟨p, vs, rfl, fun z => dm p z hp, upd_same, Rs.mv (fun a o ha _ => same_new hp a o ha) (fun _ _ z => z) ds vs h⟩
theorem od_cat {x y : List D} (hl : x.length + y.length ≤ sizeLine) (h : ψ (.lst (x ++ y))) : OpD X (binaryOp .Add) (.lst x) (.lst y) ψ :=
  OpD.of op_cat fun M N H v w Q bx byy dm q => by
    obtain ⟨p, vs, rfl, hp, rp⟩ := bx.lst
    obtain ⟨p2, vs2, rfl, hp2, rp2⟩ := byy.lst
    exact ⟨p, p2, vs, vs2, rfl, rfl, hp, hp2, by rw [rp.length, rp2.length]; exact hl, fun n hn => q _ _ _ (same_new hn) (r_fresh hn dm (rp.append rp2)) h⟩
theorem od_rep {x : List D} {k : Int} (h0 : 0 ≤ k) (h1 : (x.length : Int) * k ≤ 1000000) (h2 : k ≤ 1000000) (h : ψ (.lst (List.replicate k.toNat x).flatten)) : OpD X (binaryOp .Mult) (.lst x) (.int k) ψ :=
  OpD.of op_rep fun M N H v w Q bx byy dm q => by
    obtain ⟨p, vs, rfl, hp, rp⟩ := bx.lst
    obtain ⟨n, rfl⟩ := Int.eq_ofNat_of_zero_le h0
    have rep : ∀ n : Nat, Rs M H (List.replicate n x).flatten (List.replicate n vs).flatten := fun n => by
      induction n with
      | zero => exact rfl
      | succ n ih =>
        rw [List.replicate_succ, List.replicate_succ, List.flatten_cons, List.flatten_cons]
        exact rp.append ih
    refine ⟨p, _, vs, rfl, byy.int, hp, by omega, by omega, ?_, fun n' hn => q _ _ _ (same_new hn) (r_fresh hn dm (rep n)) h⟩
    rw [rp.length, Int.toNat_natCast]
    refine line_of ?_
    have : ((x.length * n : Nat) : Int) ≤ 1000000 := by rw [Int.natCast_mul]; exact h1
    omega
theorem od_catT {x y : List D} (hl : x.length + y.length ≤ sizeLine) (h : ψ (.tup (x ++ y))) : OpD X (binaryOp .Add) (.tup x) (.tup y) ψ :=
  OpD.of op_catA fun M N H v w Q bx byy dm q => by
    have tx := bx.flat fun _ z => nomatch z
    have ty := byy.flat fun _ z => nomatch z
    obtain ⟨p, vs, rfl, np, hp, rp⟩ := id tx
    obtain ⟨p2, vs2, rfl, np2, hp2, rp2⟩ := id ty
    refine ⟨p, p2, vs, vs2, rfl, rfl, SqT.of hp, SqT.of hp2, by rw [rp.length, rp2.length]; exact hl, fun z => ?_, fun _ z => ?_, fun _ _ n hn => q _ _ _ (same_new hn) (r_freshT hn dm (rp.append rp2)) h⟩
    · subst z
      have e : x = [] := List.length_eq_zero_iff.mp (by rw [← rp.length]; rfl)
      subst e
      exact q _ (.tup y) H (Same.refl H) ty h
    · subst z
      have e : y = [] := List.length_eq_zero_iff.mp (by rw [← rp2.length]; rfl)
      subst e
      rw [List.append_nil] at h
      exact q _ (.tup x) H (Same.refl H) tx h
/-- t[lo:hi] -/
theorem ev_sliceT {lo hi : Option Expr} {p2 : Pos} (h : PEv X W g ρ a fun d g1 => ∃ ds, d = .tup ds ∧ POv X W g1 ρ lo fun l g2 => POv X W g2 ρ hi fun u g3 => φ (.tup (cutD ds l u)) g3) : PEv X W g ρ (.Subscript a (.Slice lo hi none p2) pos) φ := fun M0 σ H Q r k =>
  toE (pe_slice sl_tupA pe_c po_c po_c) (h M0 σ H _ r fun v d g1 H1 x1 j1 r1 p => by
    obtain ⟨ds, rfl, p⟩ := p
    refine p M0 σ H1 _ (r.ext x1 j1) fun l g2 H2 x2 j2 p => ?_
    refine p M0 σ H2 _ ((r.ext x1 j1).ext x2 j2) fun u g3 H3 x3 j3 p => ?_
    have rt := RS.mono x3 (RS.mono x2 r1)
    obtain ⟨q, vs, rfl, nq, hq, rs⟩ := id rt
    have e := (x1.trans x2).trans x3
    refine ⟨q, vs, rfl, SqT.of hq, fun z => ?_, fun z n hn => ?_⟩
    · refine k _ (.tup (cutD ds l u)) g3 H3 e j3 ⟨q, vs, rfl, nq, hq, ?_⟩ p
      have c := cut_rs rs l u
      have ev : cutV vs l u = vs := by
        unfold cutV
        rw [z.1, z.2]
        simp
      rw [ev] at c
      exact c
    · exact k _ (.tup (cutD ds l u)) g3 _ (e.trans (Ext.of_same (same_new hn))) (W.same j3 (same_new hn)) (r_freshT hn (((r.ext x1 j1).ext x2 j2).ext x3 j3).dm (cut_rs rs l u)) p)
theorem ev_sliceS {lo hi : Option Expr} {p2 : Pos} (h : PEv X W g ρ a fun d g1 => ∃ z : Str, d = .str z ∧ POv X W g1 ρ lo fun l g2 => POv X W g2 ρ hi fun u g3 => z.length ≤ 1000000 ∧ φ (.str (cutS z l u)) g3) : PEv X W g ρ (.Subscript a (.Slice lo hi none p2) pos) φ := fun M0 σ H Q r k =>
  toE (pe_slice sl_str pe_c po_c po_c) (h M0 σ H _ r fun v d g1 H1 x1 j1 r1 p => by
    obtain ⟨z, rfl, p⟩ := p
    refine p M0 σ H1 _ (r.ext x1 j1) fun l g2 H2 x2 j2 p => ?_
    refine p M0 σ H2 _ ((r.ext x1 j1).ext x2 j2) fun u g3 H3 x3 j3 p => ?_
    exact ⟨z, r1, line_of p.1, k _ (.str (cutS z l u)) g3 H3 ((x1.trans x2).trans x3) j3 rfl p.2⟩)

/-! ### built-in functions -/
def CallD (X : Cx) (f : Value) (ds : List D) (φ : D → Prop) : Prop := ∀ (M N : Addr → Prop) (pins : List (Addr × Obj)) (s : Shared) (σ : L2.St) (H : Hp) (xs : List V) (us : List Value) (Q : VK), Inv X pins σ H s → Vals xs us →
  RBs M N H ds xs → (∀ a, M a → H a ≠ none) → (∀ z d H', Same H H' → R M H' d z → φ d → Q z H') → wpAny (model X.prog X.w) X.A (call f us) (EP X pins σ Q) X.xe s
theorem CallD.of {f : Value} {r : List V → Hp → VK → Prop} {ds : List D} {φ : D → Prop} (ho : CallR X f r)
    (h : ∀ (M N : Addr → Prop) (H : Hp) (xs : List V) (Q : VK), RBs M N H ds xs → (∀ a, M a → H a ≠ none) → (∀ z d H', Same H H' → R M H' d z → φ d → Q z H') → r xs H Q) : CallD X f ds φ :=
  fun M N pins s σ H xs us Q I rx bx dm k => ho pins s σ H xs us Q I rx (h M N H xs Q bx dm k)
/-- .. that gives a new list -/
def CallF (X : Cx) (f : Value) (ds : List D) (φ : List D → Prop) : Prop := ∀ (M N : Addr → Prop) (pins : List (Addr × Obj)) (s : Shared) (σ : L2.St) (H : Hp) (xs : List V) (us : List Value) (Q : VK), Inv X pins σ H s → Vals xs us →
  RBs M N H ds xs → (∀ a, M a → H a ≠ none) → (∀ p vs es, H p = none → Rs M H es vs → φ es → Q (.ref p) (upd H p (.lst vs))) → wpAny (model X.prog X.w) X.A (call f us) (EP X pins σ Q) X.xe s
theorem CallF.of {f : Value} {r : List V → Hp → VK → Prop} {ds : List D} {φ : List D → Prop} (ho : CallR X f r)
    (h : ∀ (M N : Addr → Prop) (H : Hp) (xs : List V) (Q : VK), RBs M N H ds xs → (∀ a, M a → H a ≠ none) → (∀ p vs es, H p = none → Rs M H es vs → φ es → Q (.ref p) (upd H p (.lst vs))) → r xs H Q) : CallF X f ds φ :=
  fun M N pins s σ H xs us Q I rx bx dm k => ho pins s σ H xs us Q I rx (h M N H xs Q bx dm k)
theorem CallF.d {f : Value} {ds : List D} {φ : D → Prop} (h : CallF X f ds fun es => φ (.lst es)) : CallD X f ds φ := fun M N pins s σ H xs us Q I rx bx dm k =>
  h M N pins s σ H xs us Q I rx bx dm fun p vs es hp rs q => k _ (.lst es) _ (same_new hp) (r_fresh hp dm rs) q
theorem callr_D {f : Value} : CallR X f fun xs H Q => ∃ ds φ M N, CallD X f ds φ ∧ RBs M N H ds xs ∧ (∀ a, M a → H a ≠ none) ∧ (∀ z d H', Same H H' → R M H' d z → φ d → Q z H') := by
  intro pins s σ H xs us Q I rx h
  obtain ⟨ds, φ, M, N, hc, bx, dm, k⟩ := h
  exact hc M N pins s σ H xs us Q I rx bx dm k
theorem callr_F {f : Value} : CallR X f fun xs H Q => ∃ ds φ M N, CallF X f ds φ ∧ RBs M N H ds xs ∧ (∀ a, M a → H a ≠ none) ∧ (∀ p vs es, H p = none → Rs M H es vs → φ es → Q (.ref p) (upd H p (.lst vs))) := by
  intro pins s σ H xs us Q I rx h
  obtain ⟨ds, φ, M, N, hc, bx, dm, k⟩ := h
  exact hc M N pins s σ H xs us Q I rx bx dm k
variable {x : Str} {p : Pos} {id T : String}
theorem args_D {f : Value} {M0 : Addr → Prop} {σ : L2.St} {H : Hp} {Q : VK} (h : PAb X W g ρ es fun ds g' => CallD X f ds fun d => φ d g') (r : RS W M0 g ρ σ H)
    (k : ∀ v d g' H', Ext W H H' → W.J g' H' → R (MM W M0 ρ) H' d v → φ d g' → Q v H') : cA X es σ H fun xs H1 => ∃ ds φ M N, CallD X f ds φ ∧ RBs M N H1 ds xs ∧ (∀ a, M a → H1 a ≠ none) ∧ (∀ z d H', Same H1 H' → R M H' d z → φ d → Q z H') :=
  h M0 σ H _ r fun vs ds g1 H1 x1 j1 r1 p => ⟨ds, _, _, _, p, r1, (r.ext x1 j1).dm, fun z d H' sm rz q => k z d g1 H' (x1.trans (Ext.of_same sm)) (W.same j1 sm) rz q⟩
theorem args_F {f : Value} {φ : List D → γ → Prop} {M0 : Addr → Prop} {σ : L2.St} {H : Hp} {Q : VK} (h : PAb X W g ρ es fun ds g' => CallF X f ds fun d => φ d g') (r : RS W M0 g ρ σ H)
    (k : ∀ p vs ds g' H', Ext W H H' → W.J g' H' → H p = none → H' p = some (.lst vs) → Rs (fun a => MM W M0 ρ a ∨ a = p) H' ds vs → φ ds g' → Q (.ref p) H') : cA X es σ H fun xs H1 => ∃ ds φ M N, CallF X f ds φ ∧ RBs M N H1 ds xs ∧ (∀ a, M a → H1 a ≠ none) ∧ (∀ p vs es, H1 p = none → Rs M H1 es vs → φ es → Q (.ref p) (upd H1 p (.lst vs))) :=
  h M0 σ H _ r fun vs ds g1 H1 x1 j1 r1 p => ⟨ds, _, _, _, p, r1, (r.ext x1 j1).dm, fun n ws es hn rz q => by
    have hn0 : H n = none := by
      cases z : H n with
      | none => rfl
      | some o => exact absurd hn (x1.dm n (by rw [z]; exact fun z => nomatch z))
    refine k n ws es g1 _ (x1.trans (Ext.of_same (same_new hn))) (W.same j1 (same_new hn)) hn0 upd_same ?_ q
    refine Rs.mv (fun a o ha _ => same_new hn a o ha) (fun a ha z => ?_) es ws rz
    rcases z with z | z
    · exact z
    · rw [z] at ha; exact absurd hn ha⟩
/-- f(e, ..), f a built-in function; T(e, ..), T a built-in type -/
theorem ev_callB (hm : X.mg x = none) (h : PAb X W g ρ (e :: es) fun ds g' => CallD X (.builtin id) ds fun d => φ d g') (hv : bootBuiltins x = some (.builtin id) := by decide +kernel) (hg : Gl X x := by rfl) (hn : x ≠ "__name__" := by decide) (hdb : (x == ("__debug__" : Str)) = false := by decide)
    (he : starEach (e :: es) X.env = (false, eval e X.env) :: starEach es X.env := by rfl) (hpl : (backTo pos (starEach es X.env)).any (·.1) = false := by rfl) : PEv X W g ρ (.Call (.Name x p) (e :: es) [] pos) φ := fun M0 σ H Q r k =>
  toE (pe_callB callr_D hg hm hv pa_c hn hdb he hpl) (args_D h r k)
theorem ev_callTy (hm : X.mg x = none) (h : PAb X W g ρ (e :: es) fun ds g' => CallD X (.type T) ds fun d => φ d g') (hv : bootBuiltins x = some (.type T) := by decide +kernel) (hg : Gl X x := by rfl) (hn : x ≠ "__name__" := by decide) (hdb : (x == ("__debug__" : Str)) = false := by decide)
    (he : starEach (e :: es) X.env = (false, eval e X.env) :: starEach es X.env := by rfl) (hpl : (backTo pos (starEach es X.env)).any (·.1) = false := by rfl) : PEv X W g ρ (.Call (.Name x p) (e :: es) [] pos) φ := fun M0 σ H Q r k =>
  toE (pe_callTy callr_D hg hm hv pa_c hn hdb he hpl) (args_D h r k)
theorem ef_callB {φ : List D → γ → Prop} (hm : X.mg x = none) (h : PAb X W g ρ (e :: es) fun ds g' => CallF X (.builtin id) ds fun d => φ d g') (hv : bootBuiltins x = some (.builtin id) := by decide +kernel) (hg : Gl X x := by rfl) (hn : x ≠ "__name__" := by decide) (hdb : (x == ("__debug__" : Str)) = false := by decide)
    (he : starEach (e :: es) X.env = (false, eval e X.env) :: starEach es X.env := by rfl) (hpl : (backTo pos (starEach es X.env)).any (·.1) = false := by rfl) : PEf X W g ρ (.Call (.Name x p) (e :: es) [] pos) φ := fun M0 σ H Q r k =>
  toE (pe_callB callr_F hg hm hv pa_c hn hdb he hpl) (args_F h r k)
theorem ef_callTy {φ : List D → γ → Prop} (hm : X.mg x = none) (h : PAb X W g ρ (e :: es) fun ds g' => CallF X (.type T) ds fun d => φ d g') (hv : bootBuiltins x = some (.type T) := by decide +kernel) (hg : Gl X x := by rfl) (hn : x ≠ "__name__" := by decide) (hdb : (x == ("__debug__" : Str)) = false := by decide)
    (he : starEach (e :: es) X.env = (false, eval e X.env) :: starEach es X.env := by rfl) (hpl : (backTo pos (starEach es X.env)).any (·.1) = false := by rfl) : PEf X W g ρ (.Call (.Name x p) (e :: es) [] pos) φ := fun M0 σ H Q r k =>
  toE (pe_callTy callr_F hg hm hv pa_c hn hdb he hpl) (args_F h r k)

theorem RBs.one {M N : Addr → Prop} {H : Hp} {d : D} {xs : List V} (h : RBs M N H [d] xs) : ∃ v, xs = [v] ∧ RB M N H d v := by
  obtain ⟨v, r, rfl, a, e⟩ := h
  cases e
  exact ⟨v, rfl, a⟩
theorem RBs.two {M N : Addr → Prop} {H : Hp} {d d' : D} {xs : List V} (h : RBs M N H [d, d'] xs) : ∃ v w, xs = [v, w] ∧ RB M N H d v ∧ RB M N H d' w := by
  obtain ⟨v, r, rfl, a, e⟩ := h
  obtain ⟨w, rfl, b⟩ := RBs.one e
  exact ⟨v, w, rfl, a, b⟩
theorem cd_len {d : D} {ds : List D} (hd : Seqd d = some ds) (h : ψ (.int ds.length)) : CallD X (.builtin "len") [d] ψ :=
  CallD.of call_len_seq fun M N H xs Q bx dm k => by
    obtain ⟨v, rfl, b⟩ := bx.one
    obtain ⟨q, vs, rfl, rs, hh⟩ := b.seq (K := X.K) hd
    refine ⟨q, vs, rfl, ?_, by rw [rs.length]; exact k _ (.int ds.length) H (Same.refl H) rfl h⟩
    rcases hh with ⟨hh, _⟩ | ⟨hh, _⟩
    · exact .inl (SqL.of hh)
    · exact .inr (SqT.of hh)
theorem cd_lenF {ds : List D} (h : ψ (.int ds.length)) : CallD X (.builtin "len") [.frz ds] ψ :=
  CallD.of call_len_seq fun M N H xs Q bx dm k => by
    obtain ⟨v, rfl, b⟩ := bx.one
    obtain ⟨q, o, vs, rfl, hh, rs⟩ := b.frz
    exact ⟨q, vs, rfl, .inl (.inl (.inr ⟨o, hh⟩)), by rw [rs.length]; exact k _ (.int ds.length) H (Same.refl H) rfl h⟩
theorem cd_lenS {z : Str} (hl : z.length ≤ 1000000) (h : ψ (.int z.length)) : CallD X (.builtin "len") [.str z] ψ :=
  CallD.of call_len_str fun M N H xs Q bx dm k => by
    obtain ⟨v, rfl, b⟩ := bx.one
    exact ⟨z, by rw [b.str], line_of hl, k _ (.int z.length) H (Same.refl H) rfl h⟩
theorem cd_abs {i : Int} (h : ψ (.int (if i < 0 then -i else i))) : CallD X (.builtin "abs") [.int i] ψ :=
  CallD.of call_abs fun M N H xs Q bx dm k => by
    obtain ⟨v, rfl, b⟩ := bx.one
    exact ⟨i, by rw [b.int], k _ (.int _) H (Same.refl H) rfl h⟩
theorem cd_max2 {i j : Int} (hc : X.calm = true) (h : ψ (.int (max i j))) : CallD X (.builtin "max") [.int i, .int j] ψ :=
  CallD.of (call_max2 hc) fun M N H xs Q bx dm k => by
    obtain ⟨v, w, rfl, b, b2⟩ := bx.two
    have e : (if j > i then j else i) = max i j := by split <;> omega
    exact ⟨i, j, by rw [b.int, b2.int], by rw [e]; exact k _ (.int _) H (Same.refl H) rfl h⟩
theorem cd_min2 {i j : Int} (hc : X.calm = true) (h : ψ (.int (min i j))) : CallD X (.builtin "min") [.int i, .int j] ψ :=
  CallD.of (call_min2 hc) fun M N H xs Q bx dm k => by
    obtain ⟨v, w, rfl, b, b2⟩ := bx.two
    have e : (if j < i then j else i) = min i j := by split <;> omega
    exact ⟨i, j, by rw [b.int, b2.int], by rw [e]; exact k _ (.int _) H (Same.refl H) rfl h⟩
theorem cd_intB {c : Bool} (h : ψ (.int (if c then 1 else 0))) : CallD X (.type "int") [.bl c] ψ :=
  CallD.of call_int1 fun M N H xs Q bx dm k => by
    obtain ⟨v, rfl, b⟩ := bx.one
    exact .inr ⟨c, by rw [b.bl], k _ (.int _) H (Same.refl H) rfl h⟩
theorem cd_sum {ns : List Int} (hc : X.calm = true) (h : ψ (.int ns.sum)) : CallD X (.builtin "sum") [.lst (ns.map D.int)] ψ :=
  CallD.of (cr_sum hc) fun M N H xs Q bx dm k => by
    obtain ⟨v, rfl, b⟩ := bx.one
    obtain ⟨q, vs, rfl, hq, rs⟩ := b.lst
    rw [rs.ints] at hq
    exact ⟨q, ns, rfl, SqL.of hq, k _ (.int _) H (Same.refl H) rfl h⟩
theorem cd_all {ns : List Bool} (hc : X.calm = true) (h : ψ (.bl (ns.all (fun b => b)))) : CallD X (.builtin "all") [.lst (ns.map D.bl)] ψ :=
  CallD.of (cr_all hc) fun M N H xs Q bx dm k => by
    obtain ⟨v, rfl, b⟩ := bx.one
    obtain ⟨q, vs, rfl, hq, rs⟩ := b.lst
    rw [rs.bls] at hq
    exact ⟨q, ns, rfl, SqL.of hq, k _ (.bl _) H (Same.refl H) rfl h⟩
theorem cd_any {ns : List Bool} (hc : X.calm = true) (h : ψ (.bl (ns.any (fun b => b)))) : CallD X (.builtin "any") [.lst (ns.map D.bl)] ψ :=
  CallD.of (cr_any hc) fun M N H xs Q bx dm k => by
    obtain ⟨v, rfl, b⟩ := bx.one
    obtain ⟨q, vs, rfl, hq, rs⟩ := b.lst
    rw [rs.bls] at hq
    exact ⟨q, ns, rfl, SqL.of hq, k _ (.bl _) H (Same.refl H) rfl h⟩
theorem cd_tuple {d : D} {ds : List D} (hd : Seqd d = some ds) (h : ψ (.tup ds)) : CallD X (.type "tuple") [d] ψ :=
  CallD.of call_tuple_of fun M N H xs Q bx dm k => by
    obtain ⟨v, rfl, b⟩ := bx.one
    have b0 := b
    obtain ⟨q, vs, rfl, rs, hh⟩ := b.seq (K := X.K) hd
    rcases hh with ⟨hh, _⟩ | ⟨hh, e⟩
    · exact ⟨q, vs, rfl, .inl ⟨SqL.of hh, fun n hn => k _ (.tup ds) _ (same_new hn) (r_freshT hn dm rs) h⟩⟩
    · subst e
      exact ⟨q, vs, rfl, .inr ⟨SqT.of hh, k _ (.tup ds) H (Same.refl H) (b0.flat fun _ z => nomatch z) h⟩⟩
theorem cf_list {d : D} {ds : List D} {ψ : List D → Prop} (hd : Seqd d = some ds) (h : ψ ds) : CallF X (.type "list") [d] ψ :=
  CallF.of call_list_of fun M N H xs Q bx dm k => by
    obtain ⟨v, rfl, b⟩ := bx.one
    obtain ⟨q, vs, rfl, rs, hh⟩ := b.seq (K := X.K) hd
    refine ⟨q, vs, rfl, ?_, fun n hn => k n vs ds hn rs h⟩
    rcases hh with ⟨hh, _⟩ | ⟨hh, _⟩
    · exact .inl (SqL.of hh)
    · exact .inr (SqT.of hh)

/-! ### promises and calls -/
def SpF {ι : Type} (args : ι → List D) (pre : ι → Prop) (res : ι → D → Prop) : Sp := fun vs H Q _ => ∃ (i : ι) (M : Addr → Prop), Rs M H (args i) vs ∧ (∀ a, M a → H a ≠ none) ∧ pre i ∧ ∀ v d H', Same H H' → R M H' d v → res i d → Q v H'
/-- .. of a def that is handed an object, or more of them -/
def SpW {α ι γ : Type} (W : α → Wd γ) (args : α → ι → List D) (pre : ι → γ → Prop) (res : ι → γ → D → γ → Prop) : Sp := fun vs H Q _ => ∃ (a : α) (i : ι) (g : γ) (M : Addr → Prop), Rs M H (args a i) vs ∧ (∀ p, M p → H p ≠ none) ∧ (∀ p, (W a).mj p → M p) ∧ pre i g ∧ (W a).J g H ∧
  ∀ v d g' H', Ext (W a) H H' → (W a).J g' H' → R M H' d v → res i g d g' → Q v H'
/-- a def of the module that keeps a promise -/
structure Gd (P : Program) (w : World) (K : PySem.W.Frag) (mg : Str → Option Value) (base : Heap) (x : Str) (k : Nat) (sp : Sp) : Prop where
  ex : ∃ (f : Addr) (fd : FuncData) (ps : List Str), FnOk P w K mg base CX0 k f fd ps sp ∧ mg x = some (.ref f) ∧ PySem.W.keepIn K (.ref f) = true ∧ Binds K fd ps []
variable {ι : Type} {args : ι → List D} {pre : ι → Prop} {res : ι → D → Prop} {k : Nat}
theorem ev_call (G : Gd X.prog X.w X.K X.mg X.base x k (SpF args pre res)) (hr : Room k X.A) (h : PAv X W g ρ (e :: es) fun ds g' => ∃ i, ds = args i ∧ pre i ∧ ∀ d, res i d → φ d g') (hg : Gl X x := by rfl)
    (hdb : (x == ("__debug__" : Str)) = false := by decide) (he : starEach (e :: es) X.env = (false, eval e X.env) :: starEach es X.env := by rfl) (hpl : (backTo pos (starEach es X.env)).any (·.1) = false := by rfl) : PEv X W g ρ (.Call (.Name x p) (e :: es) [] pos) φ := fun M0 σ H Q r q => by
  obtain ⟨f, fd, ps, F, hm, hk, hb⟩ := G.ex
  refine toE (pe_call F hr hg hm hk hb .nil pass0 pa_c hdb he hpl) (h M0 σ H _ r fun vs ds g1 H1 x1 j1 r1 p => ?_)
  obtain ⟨i, rfl, hp, p⟩ := p
  rw [List.append_nil]
  exact ⟨i, _, r1, (r.ext x1 j1).dm, hp, fun v d H' sm rd rs => q v d g1 H' (x1.trans (Ext.of_same sm)) (W.same j1 sm) rd (p d rs)⟩
theorem ev_callW {α : Type} {V : α → Wd γ} {args : α → ι → List D} {pre : ι → γ → Prop} {res : ι → γ → D → γ → Prop} (a : α) (G : Gd X.prog X.w X.K X.mg X.base x k (SpW V args pre res)) (hr : Room k X.A)
    (h : PAv X (V a) g ρ (e :: es) fun ds g' => ∃ i, ds = args a i ∧ pre i g' ∧ ∀ d g'', res i g' d g'' → φ d g'') (hg : Gl X x := by rfl)
    (hdb : (x == ("__debug__" : Str)) = false := by decide) (he : starEach (e :: es) X.env = (false, eval e X.env) :: starEach es X.env := by rfl) (hpl : (backTo pos (starEach es X.env)).any (·.1) = false := by rfl) : PEv X (V a) g ρ (.Call (.Name x p) (e :: es) [] pos) φ := fun M0 σ H Q r q => by
  obtain ⟨f, fd, ps, F, hm, hk, hb⟩ := G.ex
  refine toE (pe_call F hr hg hm hk hb .nil pass0 pa_c hdb he hpl) (h M0 σ H _ r fun vs ds g1 H1 x1 j1 r1 p => ?_)
  obtain ⟨i, rfl, hp, p⟩ := p
  rw [List.append_nil]
  exact ⟨a, i, g1, _, r1, (r.ext x1 j1).dm, fun _ z => .inr (.inl z), hp, j1, fun v d g2 H' xx jj rd rs => q v d g2 H' (x1.trans xx) jj rd (p d g2 rs)⟩
end
end Co
/-! PL6: iterators, targets, comprehensions. -/
namespace Co
open PySem PySem.Spec PyProof.Rows L2

/-- the iterator J yields ds, one after the other, while what it is made of stands -/
def ItOk (M : Addr → Prop) (J : It) (ds : List D) (H : Hp) : Prop := ∀ (i : Nat) (H2 : Hp), (∀ a o, H a = some o → ¬ M a → H2 a = some o) → (∀ a, H a ≠ none → H2 a ≠ none) →
  (ds.length ≤ i → J.stop i H2) ∧ (∀ d, ds[i]? = some d → J.go i H2 ∧ ∀ x H', J.yld i H2 x H' → Same H2 H' ∧ ∀ M' : Addr → Prop, (∀ a, M' a → H2 a ≠ none) → (∀ a, H a ≠ none → M' a → M a) → R M' H' d x)
section
variable {γ : Type}
def PIv (X : Cx) (W : Wd γ) (g : γ) (ρ : Sl) (tg e : Expr) (φ : List D → γ → Prop) : Prop := ∀ M0 σ H (Q : It → Hp → Prop), RS W M0 g ρ σ H →
  (∀ J ds g' H', Ext W H H' → W.J g' H' → ItOk (MM W M0 ρ) J ds H' → φ ds g' → Q J H') → cI X tg e σ H Q
/-- a datum is stored -/
def PGv (X : Cx) (W : Wd γ) (g : γ) (ρ : Sl) (tg : Expr) (d : D) (js : List Nat) (φ : Sl → γ → Prop) : Prop := ∀ M0 σ H v (Q : L2.St → Hp → Prop), RS W M0 g ρ σ H → R (MM W M0 ρ) H d v →
  (∀ ρ' g' σ' H', RS W M0 g' ρ' σ' H' → Ext W H H' → (∀ p ∈ owns ρ', p ∈ owns ρ) → (∀ us : List Nat, (∀ i ∈ js, i ∈ us) → L2.wipe σ' us = L2.wipe σ us) → φ ρ' g' → Q σ' H') → cG X tg v σ H Q
def PGsv (X : Cx) (W : Wd γ) (g : γ) (ρ : Sl) (ts : List Expr) (ds : List D) (js : List Nat) (φ : Sl → γ → Prop) : Prop := ∀ M0 σ H vs (Q : L2.St → Hp → Prop), RS W M0 g ρ σ H → Rs (MM W M0 ρ) H ds vs →
  (∀ ρ' g' σ' H', RS W M0 g' ρ' σ' H' → Ext W H H' → (∀ p ∈ owns ρ', p ∈ owns ρ) → (∀ us : List Nat, (∀ i ∈ js, i ∈ us) → L2.wipe σ' us = L2.wipe σ us) → φ ρ' g' → Q σ' H') → cGs X ts vs σ H Q
/-- .. where nobody asks which slots -/
def PGw (X : Cx) (W : Wd γ) (g : γ) (ρ : Sl) (tg : Expr) (d : D) (φ : Sl → γ → Prop) : Prop := ∀ M0 σ H v (Q : L2.St → Hp → Prop), RS W M0 g ρ σ H → R (MM W M0 ρ) H d v →
  (∀ ρ' g' σ' H', RS W M0 g' ρ' σ' H' → Ext W H H' → (∀ p ∈ owns ρ', p ∈ owns ρ) → φ ρ' g' → Q σ' H') → cG X tg v σ H Q
def PGsw (X : Cx) (W : Wd γ) (g : γ) (ρ : Sl) (ts : List Expr) (ds : List D) (φ : Sl → γ → Prop) : Prop := ∀ M0 σ H vs (Q : L2.St → Hp → Prop), RS W M0 g ρ σ H → Rs (MM W M0 ρ) H ds vs →
  (∀ ρ' g' σ' H', RS W M0 g' ρ' σ' H' → Ext W H H' → (∀ p ∈ owns ρ', p ∈ owns ρ) → φ ρ' g' → Q σ' H') → cGs X ts vs σ H Q
theorem wipe_len (σ : L2.St) : ∀ us : List Nat, (L2.wipe σ us).length = σ.length
  | [] => rfl
  | v :: us => by show ((L2.wipe σ us).set v none).length = _; rw [List.length_set, wipe_len σ us]
theorem wipe_in {σ : L2.St} {i : Nat} (hi : i < σ.length) : ∀ {us : List Nat}, i ∈ us → (L2.wipe σ us)[i]? = some none
  | [], h => by simp at h
  | v :: us, h => by
    show ((L2.wipe σ us).set v none)[i]? = some none
    by_cases e : v = i
    · subst e
      rw [List.getElem?_set_self (by rw [wipe_len]; exact hi)]
    · rw [List.getElem?_set_ne e]
      rcases List.mem_cons.mp h with z | z
      · exact absurd z.symm e
      · exact wipe_in hi z
theorem wipe_eq {σ σ' : L2.St} {us : List Nat} (hl : σ'.length = σ.length) (h : ∀ i : Nat, i ∉ us → σ'[i]? = σ[i]?) : L2.wipe σ' us = L2.wipe σ us := by
  apply List.ext_getElem?
  intro i
  by_cases hi : i < σ.length
  · by_cases hu : i ∈ us
    · rw [wipe_in hi hu, wipe_in (by rw [hl]; exact hi) hu]
    · rw [L2.wipe_out hu, L2.wipe_out hu, h i hu]
  · rw [List.getElem?_eq_none_iff.mpr (by rw [wipe_len]; omega), List.getElem?_eq_none_iff.mpr (by rw [wipe_len]; omega)]
theorem wipe_set {σ : L2.St} {i : Nat} {x : Option V} {us : List Nat} (h : i ∈ us) : L2.wipe (σ.set i x) us = L2.wipe σ us :=
  wipe_eq (by rw [List.length_set]) fun j hj => by rw [List.getElem?_set_ne (fun z => hj (by rw [← z]; exact h))]
theorem wipe_wipe {σ : L2.St} {us : List Nat} : L2.wipe (L2.wipe σ us) us = L2.wipe σ us := wipe_eq (wipe_len σ us) fun j hj => L2.wipe_out hj
end
/-- every list, every tuple is below the line -/
def Sized (H : Hp) : Prop := ∀ a xs, (H a = some (.lst xs) ∨ H a = some (.tup xs)) → xs.length ≤ sizeLine
theorem cE_sized {X : Cx} {e : Expr} {σ : L2.St} {H : Hp} {Q Q' : VK} (h : cE X e σ H Q) (k : ∀ v H', Sized H' → Q v H' → Q' v H') : cE X e σ H Q' := fun pins s I =>
  thn (h pins s I) fun u s' ⟨v, H', I', r, q⟩ => ⟨v, H', I', r, k v H' (fun a xs h => by
    rcases h with h | h
    · exact (I'.list (SqL.of h)).elim fun _ z => z.2.2
    · exact (I'.tuple (SqT.of h)).elim fun _ z => z.2.2) q⟩
section
variable {γ : Type} {X : Cx} {W : Wd γ} {g : γ} {ρ : Sl} {e a b tg : Expr} {es : List Expr} {φ : Sl → γ → Prop} {pos : Pos}
/-- .. and what is known of the sizes -/
theorem PEv.sized {φ : D → γ → Prop} (h : PEv X W g ρ e fun d g' => (∀ ds, Seqd d = some ds → ds.length ≤ sizeLine) → φ d g') : PEv X W g ρ e φ := fun M0 σ H Q r k =>
  cE_sized (Q := fun v H' => Sized H' → Q v H') (h M0 σ H _ r fun v d g1 H1 x1 j1 r1 p z => k v d g1 H1 x1 j1 r1 (p fun ds hd => by
    obtain ⟨q, vs, rfl, rs, hh⟩ := (R.b (N := W.mj) r1).seq (K := X.K) hd
    rw [← rs.length]
    rcases hh with ⟨hh, _⟩ | ⟨hh, _⟩
    · exact z q vs (.inl hh)
    · exact z q vs (.inr hh))) fun v H' z q => q z

/-! ### targets -/
theorem gv_name (i : Nat) {x : Str} {d : D} {js : List Nat} (h : φ (ρ.set i (.val d)) g) (hU : i ∈ js := by decide) (hN : X.N.Nodup := by assumption) (hi : X.N[i]? = some x := by rfl) (hx : Loc X.env.scope x := by first | exact Or.inl rfl | exact Or.inr rfl)
    (hf : X.fn x = true ∨ X.env.scope.names.lookup x = some .local := by first | exact .inl rfl | exact .inr rfl) : PGv X W g ρ (.Name x pos) d js φ := fun M0 σ H v Q r rv k =>
  toG (pg_name hN hi hx hf) (k _ g _ H (r.set rv i) Ext.refl (fun p hp => (owns_set_no rfl ρ i).subset hp) (fun us hu => wipe_set (hu i hU)) h)
theorem gsv_nil {js : List Nat} (h : φ ρ g) : PGsv X W g ρ [] [] js φ := fun M0 σ H vs Q r rv k => toGs pgs_nil (by cases rv; exact ⟨rfl, k ρ g σ H r Ext.refl (fun _ z => z) (fun _ _ => rfl) h⟩)
theorem gsv_cons {d : D} {ds : List D} {js : List Nat} (h : PGv X W g ρ e d js fun ρ1 g1 => PGsv X W g1 ρ1 es ds js φ) (hs : (assignEach (e :: es) X.env).map (·.2) = assign e X.env :: (assignEach es X.env).map (·.2) := by rfl) : PGsv X W g ρ (e :: es) (d :: ds) js φ := fun M0 σ H vs Q r rv k =>
  toGs (pgs_cons pg_c pgs_c hs) (by
    obtain ⟨v, vs', rfl, r1, r2⟩ := rv
    refine ⟨v, vs', rfl, h M0 σ H v _ r r1 fun ρ1 g1 σ1 H1 rr st ow1 w1 p => ?_⟩
    refine p M0 σ1 H1 vs' Q rr ?_ fun ρ2 g2 σ2 H2 rr2 st2 ow2 w2 p2 => k ρ2 g2 σ2 H2 rr2 (st.trans st2) (fun p hp => ow1 p (ow2 p hp)) (fun us hu => (w2 us hu).trans (w1 us hu)) p2
    refine Rs.mv (fun a o ha n => st.kp a o ha fun z => n (.inr (.inl z))) (fun a ha z => ?_) ds vs' r2
    rcases z with z | z | z
    · exact .inl z
    · exact .inr (.inl z)
    · exact .inr (.inr (ow1 a z)))
theorem gv_tup {k2 : Nat} {ds : List D} {js : List Nat} (h : PGsv X W g ρ es ds js φ) (hn : (assignEach es X.env).length = ds.length := by rfl) (hc : X.calm = true := by rfl) (hst : (assignEach es X.env).findIdx? (·.1) = none := by rfl) : PGv X W g ρ (.Tuple es k2 pos) (.tup ds) js φ := fun M0 σ H v Q r rv k =>
  toG (pg_tup hc pgs_c rfl hst) (by
    obtain ⟨p, vs, rfl, _, hp, rs⟩ := rv
    exact ⟨p, vs, rfl, SqT.of hp, by rw [rs.length, hn], h M0 σ H vs Q r rs k⟩)

theorem gw_name (i : Nat) {x : Str} {d : D} (h : φ (ρ.set i (.val d)) g) (hN : X.N.Nodup := by assumption) (hi : X.N[i]? = some x := by rfl) (hx : Loc X.env.scope x := by first | exact Or.inl rfl | exact Or.inr rfl)
    (hf : X.fn x = true ∨ X.env.scope.names.lookup x = some .local := by first | exact .inl rfl | exact .inr rfl) : PGw X W g ρ (.Name x pos) d φ := fun M0 σ H v Q r rv k =>
  toG (pg_name hN hi hx hf) (k _ g _ H (r.set rv i) Ext.refl (fun p hp => (owns_set_no rfl ρ i).subset hp) h)
theorem gsw_nil (h : φ ρ g) : PGsw X W g ρ [] [] φ := fun M0 σ H vs Q r rv k => toGs pgs_nil (by cases rv; exact ⟨rfl, k ρ g σ H r Ext.refl (fun _ z => z) h⟩)
theorem gsw_cons {d : D} {ds : List D} (h : PGw X W g ρ e d fun ρ1 g1 => PGsw X W g1 ρ1 es ds φ) (hs : (assignEach (e :: es) X.env).map (·.2) = assign e X.env :: (assignEach es X.env).map (·.2) := by rfl) : PGsw X W g ρ (e :: es) (d :: ds) φ := fun M0 σ H vs Q r rv k =>
  toGs (pgs_cons pg_c pgs_c hs) (by
    obtain ⟨v, vs', rfl, r1, r2⟩ := rv
    refine ⟨v, vs', rfl, h M0 σ H v _ r r1 fun ρ1 g1 σ1 H1 rr st ow1 p => ?_⟩
    refine p M0 σ1 H1 vs' Q rr ?_ fun ρ2 g2 σ2 H2 rr2 st2 ow2 p2 => k ρ2 g2 σ2 H2 rr2 (st.trans st2) (fun p hp => ow1 p (ow2 p hp)) p2
    refine Rs.mv (fun a o ha n => st.kp a o ha fun z => n (.inr (.inl z))) (fun a ha z => ?_) ds vs' r2
    rcases z with z | z | z
    · exact .inl z
    · exact .inr (.inl z)
    · exact .inr (.inr (ow1 a z)))
theorem gw_tup {k2 : Nat} {ds : List D} (h : PGsw X W g ρ es ds φ) (hn : (assignEach es X.env).length = ds.length := by rfl) (hc : X.calm = true := by rfl) (hst : (assignEach es X.env).findIdx? (·.1) = none := by rfl) : PGw X W g ρ (.Tuple es k2 pos) (.tup ds) φ := fun M0 σ H v Q r rv k =>
  toG (pg_tup hc pgs_c rfl hst) (by
    obtain ⟨p, vs, rfl, _, hp, rs⟩ := rv
    exact ⟨p, vs, rfl, SqT.of hp, by rw [rs.length, hn], h M0 σ H vs Q r rs k⟩)

/-! ### what is walked -/
theorem itok_list {M : Addr → Prop} {K : PySem.W.Frag} {H : Hp} {ds : List D} {q : Addr} {vs : List V} (n : ¬ M q) (hq : H q = some (.lst vs)) (rs : Rs M H ds vs) : ItOk M (Itl K q) ds H := fun i H2 kp dm => by
  have hq2 := kp q _ hq n
  refine ⟨fun hi => ⟨vs, SqL.of hq2, by rw [rs.length]; exact hi⟩, fun d hd => ?_⟩
  obtain ⟨v, hv, rv⟩ := rs.get hd
  refine ⟨⟨vs, v, SqL.of hq2, hv⟩, fun x H' hy => ?_⟩
  obtain ⟨rfl, hx⟩ := hy
  have e := (hx vs (SqL.of hq2)).symm.trans hv
  cases e
  exact ⟨Same.refl _, fun M' h1 h2 => R.mv kp h2 d _ rv⟩
theorem itok_tup {M : Addr → Prop} {K : PySem.W.Frag} {H : Hp} {ds : List D} {q : Addr} {vs : List V} (n : ¬ M q) (hq : H q = some (.tup vs)) (rs : Rs M H ds vs) : ItOk M (Itt K q) ds H := fun i H2 kp dm => by
  have hq2 := kp q _ hq n
  refine ⟨fun hi => ⟨vs, SqT.of hq2, by rw [rs.length]; exact hi⟩, fun d hd => ?_⟩
  obtain ⟨v, hv, rv⟩ := rs.get hd
  refine ⟨⟨vs, v, SqT.of hq2, hv⟩, fun x H' hy => ?_⟩
  obtain ⟨rfl, hx⟩ := hy
  have e := (hx vs (SqT.of hq2)).symm.trans hv
  cases e
  exact ⟨Same.refl _, fun M' h1 h2 => R.mv kp h2 d _ rv⟩
theorem iv_list {φ : List D → γ → Prop} (h : PEv X W g ρ e fun d g1 => ∃ ds, d = .lst ds ∧ (ds.length ≤ sizeLine → φ ds g1)) : PIv X W g ρ tg e φ := fun M0 σ H Q r k =>
  toI (pi_list pe_c) (cE_sized (Q := fun v H' => Sized H' → ∃ a, v = .ref a ∧ (∃ xs, SqL X.K H' a xs) ∧ Q (Itl X.K a) H') (h M0 σ H _ r fun v d g1 H1 x1 j1 r1 p z => by
    obtain ⟨ds, rfl, p⟩ := p
    obtain ⟨q, vs, rfl, nq, hq, rs⟩ := r1
    exact ⟨q, rfl, ⟨vs, SqL.of hq⟩, k _ ds g1 H1 x1 j1 (itok_list nq hq rs) (p (by rw [← rs.length]; exact z q vs (.inl hq)))⟩) fun v H' z q => q z)
theorem iv_tup {φ : List D → γ → Prop} (h : PEv X W g ρ e fun d g1 => ∃ ds, d = .tup ds ∧ (ds.length ≤ sizeLine → φ ds g1)) : PIv X W g ρ tg e φ := fun M0 σ H Q r k =>
  toI (pi_tup pe_c) (cE_sized (Q := fun v H' => Sized H' → ∃ a, v = .ref a ∧ (∃ xs, SqT X.K H' a xs) ∧ Q (Itt X.K a) H') (h M0 σ H _ r fun v d g1 H1 x1 j1 r1 p z => by
    obtain ⟨ds, rfl, p⟩ := p
    obtain ⟨q, vs, rfl, nq, hq, rs⟩ := r1
    exact ⟨q, rfl, ⟨vs, SqT.of hq⟩, k _ ds g1 H1 x1 j1 (itok_tup nq hq rs) (p (by rw [← rs.length]; exact z q vs (.inr hq)))⟩) fun v H' z q => q z)
/-- 0, 1, .. -/
def intsD (lo : Int) (n : Nat) : List D := (List.range n).map fun i => D.int (lo + (i : Nat))
theorem ints_get {lo : Int} {n i : Nat} {d : D} (h : (intsD lo n)[i]? = some d) : i < n ∧ d = .int (lo + i) := by
  unfold intsD at h
  rw [List.getElem?_map] at h
  cases e : (List.range n)[i]? with
  | none => rw [e] at h; cases h
  | some m =>
    rw [e] at h
    have hi := (List.getElem?_eq_some_iff.mp e).1
    rw [List.length_range] at hi
    rw [List.getElem?_range hi] at e
    cases e
    exact ⟨hi, (Option.some.inj h).symm⟩
theorem ints_len {lo : Int} {n : Nat} : (intsD lo n).length = n := by unfold intsD; rw [List.length_map, List.length_range]
theorem itok_range {M : Addr → Prop} {H : Hp} {lo : Int} {n : Nat} : ItOk M (Itr lo n) (intsD lo n) H := fun i H2 kp dm => by
  refine ⟨fun hi => by rw [ints_len] at hi; exact hi, fun d hd => ?_⟩
  obtain ⟨hi, rfl⟩ := ints_get hd
  refine ⟨hi, fun x H' hy => ?_⟩
  obtain ⟨rfl, rfl⟩ := hy
  exact ⟨Same.refl _, fun _ _ _ => rfl⟩
theorem iv_range1 {φ : List D → γ → Prop} {p : Pos} (hm : X.mg "range" = none) (h : PEv X W g ρ e fun d g1 => ∃ n : Int, d = .int n ∧ -(2 ^ 62) ≤ n ∧ n < 2 ^ 62 ∧ φ (intsD 0 n.toNat) g1) (hg : Gl X "range" := by rfl) (hs : starEach [e] X.env = [(false, eval e X.env)] := by rfl) :
    PIv X W g ρ tg (.Call (.Name "range" p) [e] [] pos) φ := fun M0 σ H Q r k =>
  toI (pi_range1 hg hm (pa_cons pe_c pa_nil (by rw [hs]; rfl)) hs) (h M0 σ H _ r fun v d g1 H1 x1 j1 r1 p => by
    obtain ⟨n, rfl, h1, h2, p⟩ := p
    have r1 : v = .int n := r1
    exact ⟨n, by rw [r1], h1, h2, k _ _ g1 H1 x1 j1 itok_range p⟩)
theorem iv_range2 {φ : List D → γ → Prop} {p : Pos} (hm : X.mg "range" = none) (h : PEv X W g ρ a fun d g1 => ∃ m : Int, d = .int m ∧ PEv X W g1 ρ b fun d g2 => ∃ n : Int, d = .int n ∧ (-(2 ^ 62) ≤ m ∧ m < 2 ^ 62 ∧ -(2 ^ 62) ≤ n ∧ n < 2 ^ 62) ∧ φ (intsD m (n - m).toNat) g2)
    (hg : Gl X "range" := by rfl) (hs : starEach [a, b] X.env = [(false, eval a X.env), (false, eval b X.env)] := by rfl) (hs2 : starEach [b] X.env = [(false, eval b X.env)] := by rfl) :
    PIv X W g ρ tg (.Call (.Name "range" p) [a, b] [] pos) φ := fun M0 σ H Q r k =>
  toI (pi_range2 hg hm (pa_cons pe_c (pa_cons pe_c pa_nil (by rw [hs2]; rfl)) (by rw [hs, hs2])) hs hs2) (h M0 σ H _ r fun v d g1 H1 x1 j1 r1 p => by
    obtain ⟨m, rfl, p⟩ := p
    refine p M0 σ H1 _ (r.ext x1 j1) fun v2 d g2 H2 x2 j2 r2 p => ?_
    obtain ⟨n, rfl, hb, p⟩ := p
    have r1 : v = .int m := r1
    have r2 : v2 = .int n := r2
    exact ⟨m, n, by rw [r1, r2], hb, k _ _ g2 H2 (x1.trans x2) j2 itok_range p⟩)
/-- i, x of enumerate -/
def enumD (ds : List D) : List D := (List.range ds.length).filterMap fun i => (ds[i]?).map fun d => D.tup [.int (i : Nat), d]
def enumF (ds : List D) : List D := ds.mapIdx fun i d => D.tup [.int (i : Nat), d]
theorem iv_enum {φ : List D → γ → Prop} {p tpos : Pos} {elts : List Expr} {kk : Nat} (hm : X.mg "enumerate" = none) (h : PEv X W g ρ e fun d g1 => ∃ ds, d = .lst ds ∧ φ (enumF ds) g1) (hg : Gl X "enumerate" := by rfl) (hs : starEach [e] X.env = [(false, eval e X.env)] := by rfl) :
    PIv X W g ρ (.Tuple elts kk tpos) (.Call (.Name "enumerate" p) [e] [] pos) φ := fun M0 σ H Q r k =>
  toI (pi_enum hg hm (pa_cons pe_c pa_nil (by rw [hs]; rfl)) hs) (h M0 σ H _ r fun v d g1 H1 x1 j1 r1 p => by
    obtain ⟨ds, rfl, p⟩ := p
    obtain ⟨q, vs, rfl, nq, hq, rs⟩ := r1
    refine ⟨q, vs, rfl, SqL.of hq, k _ _ g1 H1 x1 j1 (fun i H2 kp dm => ?_) p⟩
    have hq2 := kp q _ hq nq
    refine ⟨fun hi => ⟨vs, SqL.of hq2, by rw [rs.length]; simpa [enumF] using hi⟩, fun d hd => ?_⟩
    unfold enumF at hd
    rw [List.getElem?_mapIdx] at hd
    cases ed : ds[i]? with
    | none => rw [ed] at hd; cases hd
    | some d0 =>
      rw [ed] at hd
      cases hd
      obtain ⟨v, hv, rv⟩ := rs.get ed
      refine ⟨⟨vs, v, SqL.of hq2, hv⟩, fun x H' hy => ?_⟩
      obtain ⟨T, x0, rfl, nT, rfl, hx⟩ := hy
      have e := (hx vs (SqL.of hq2)).symm.trans hv
      cases e
      refine ⟨same_new nT, fun M' h1 h2 => ⟨T, _, rfl, fun z => h1 T z nT, upd_same, _, _, rfl, rfl, _, _, rfl, ?_, rfl⟩⟩
      exact R.mv (fun a o ha n => same_new nT a o (kp a o ha n)) h2 d0 _ rv)
/-- pairs of zip -/
def zipD : List D → List D → List D
  | x :: xs, y :: ys => .tup [x, y] :: zipD xs ys
  | _, _ => []
theorem zipD_get : ∀ {xs ys : List D} {i : Nat} {d : D}, (zipD xs ys)[i]? = some d → ∃ x y, xs[i]? = some x ∧ ys[i]? = some y ∧ d = .tup [x, y]
  | [], _, i, d, h => by simp [zipD] at h
  | _ :: _, [], i, d, h => by simp [zipD] at h
  | x :: xs, y :: ys, 0, d, h => by simp [zipD] at h; exact ⟨x, y, rfl, rfl, h.symm⟩
  | x :: xs, y :: ys, i + 1, d, h => by
    obtain ⟨a, b, h1, h2, h3⟩ := zipD_get (xs := xs) (ys := ys) (i := i) (by simpa [zipD] using h)
    exact ⟨a, b, by simpa using h1, by simpa using h2, h3⟩
theorem zipD_len : ∀ (xs ys : List D), (zipD xs ys).length = min xs.length ys.length
  | [], ys => by simp [zipD]
  | _ :: _, [] => by simp [zipD]
  | x :: xs, y :: ys => by simp [zipD, zipD_len xs ys]
theorem iv_zip {φ : List D → γ → Prop} {p tpos : Pos} {elts : List Expr} {kk : Nat} (hm : X.mg "zip" = none)
    (h : PEv X W g ρ a fun d g1 => ∃ xs, Seqd d = some xs ∧ PEv X W g1 ρ b fun d2 g2 => ∃ ys, Seqd d2 = some ys ∧ ((d = .lst xs ∧ d2 = .lst ys) ∨ (d = .tup xs ∧ d2 = .tup ys)) ∧ φ (zipD xs ys) g2) (hg : Gl X "zip" := by rfl)
    (hs : starEach [a, b] X.env = (false, eval a X.env) :: starEach [b] X.env := by rfl) (hs2 : starEach [b] X.env = [(false, eval b X.env)] := by rfl) (hpl : (backTo pos (starEach [b] X.env)).any (·.1) = false := by rfl) :
    PIv X W g ρ (.Tuple elts kk tpos) (.Call (.Name "zip" p) [a, b] [] pos) φ := fun M0 σ H Q r k =>
  toI (RZ.pi_zipA hg hm (pa_cons pe_c (pa_cons pe_c pa_nil (by rw [hs2]; rfl)) hs) hs hpl) (h M0 σ H _ r fun v d g1 H1 x1 j1 r1 p => by
    obtain ⟨xs, hd, p⟩ := p
    refine p M0 σ H1 _ (r.ext x1 j1) fun v2 d2 g2 H2 x2 j2 r2 p' => ?_
    clear p
    obtain ⟨ys, hd2, kind, p⟩ := p'
    have r1 := RS.mono x2 r1
    rcases kind with ⟨rfl, rfl⟩ | ⟨rfl, rfl⟩
    · obtain ⟨q, vs, rfl, nq, hq, rs⟩ := r1
      obtain ⟨q2, vs2, rfl, nq2, hq2, rs2⟩ := r2
      refine ⟨q, q2, vs, vs2, rfl, .inl ⟨SqL.of hq, SqL.of hq2, k _ _ g2 H2 (x1.trans x2) j2 (fun i H3 kp dm => ?_) p⟩⟩
      have e1 := kp q _ hq nq
      have e2 := kp q2 _ hq2 nq2
      refine ⟨fun hi => ⟨vs, vs2, SqL.of e1, SqL.of e2, by rw [zipD_len] at hi; rw [rs.length, rs2.length]; omega⟩, fun d hdd => ?_⟩
      obtain ⟨x, y, hx, hy, rfl⟩ := zipD_get hdd
      obtain ⟨v, hv, rv⟩ := rs.get hx
      obtain ⟨w, hw, rw'⟩ := rs2.get hy
      refine ⟨⟨vs, vs2, v, w, SqL.of e1, SqL.of e2, hv, hw⟩, fun x' H' hyy => ?_⟩
      obtain ⟨T, v', w', rfl, nT, rfl, f1, f2⟩ := hyy
      have ea := (f1 vs (SqL.of e1)).symm.trans hv
      have eb := (f2 vs2 (SqL.of e2)).symm.trans hw
      cases ea; cases eb
      refine ⟨same_new nT, fun M' h1 h2 => ⟨T, _, rfl, fun z => h1 T z nT, upd_same, _, _, rfl, ?_, _, _, rfl, ?_, rfl⟩⟩
      · exact R.mv (fun a o ha n => same_new nT a o (kp a o ha n)) h2 x _ rv
      · exact R.mv (fun a o ha n => same_new nT a o (kp a o ha n)) h2 y _ rw'
    · obtain ⟨q, vs, rfl, nq, hq, rs⟩ := r1
      obtain ⟨q2, vs2, rfl, nq2, hq2, rs2⟩ := r2
      refine ⟨q, q2, vs, vs2, rfl, .inr ⟨SqT.of hq, SqT.of hq2, k _ _ g2 H2 (x1.trans x2) j2 (fun i H3 kp dm => ?_) p⟩⟩
      have e1 := kp q _ hq nq
      have e2 := kp q2 _ hq2 nq2
      refine ⟨fun hi => ⟨vs, vs2, SqT.of e1, SqT.of e2, by rw [zipD_len] at hi; rw [rs.length, rs2.length]; omega⟩, fun d hdd => ?_⟩
      obtain ⟨x, y, hx, hy, rfl⟩ := zipD_get hdd
      obtain ⟨v, hv, rv⟩ := rs.get hx
      obtain ⟨w, hw, rw'⟩ := rs2.get hy
      refine ⟨⟨vs, vs2, v, w, SqT.of e1, SqT.of e2, hv, hw⟩, fun x' H' hyy => ?_⟩
      obtain ⟨T, v', w', rfl, nT, rfl, f1, f2⟩ := hyy
      have ea := (f1 vs (SqT.of e1)).symm.trans hv
      have eb := (f2 vs2 (SqT.of e2)).symm.trans hw
      cases ea; cases eb
      refine ⟨same_new nT, fun M' h1 h2 => ⟨T, _, rfl, fun z => h1 T z nT, upd_same, _, _, rfl, ?_, _, _, rfl, ?_, rfl⟩⟩
      · exact R.mv (fun a o ha n => same_new nT a o (kp a o ha n)) h2 x _ rv
      · exact R.mv (fun a o ha n => same_new nT a o (kp a o ha n)) h2 y _ rw')
/-- reversed(xs) -/
theorem iv_rev {φ : List D → γ → Prop} {p : Pos} (hm : X.mg "reversed" = none) (h : PEv X W g ρ e fun d g1 => ∃ ds, d = .lst ds ∧ φ ds.reverse g1) (hg : Gl X "reversed" := by rfl) (hs : starEach [e] X.env = [(false, eval e X.env)] := by rfl) :
    PIv X W g ρ tg (.Call (.Name "reversed" p) [e] [] pos) φ := fun M0 σ H Q r k =>
  toI (pi_reversed hg hm (pa_cons pe_c pa_nil (by rw [hs]; rfl)) hs) (h M0 σ H _ r fun v d g1 H1 x1 j1 r1 p => by
    obtain ⟨ds, rfl, p⟩ := p
    obtain ⟨q, vs, rfl, nq, hq, rs⟩ := r1
    refine ⟨q, vs, rfl, SqL.of hq, k _ _ g1 H1 x1 j1 (fun i H2 kp dm => ?_) p⟩
    have hq2 := kp q _ hq nq
    refine ⟨fun hi => ?_, fun d hd => ?_⟩
    · show vs.length ≤ i
      rw [rs.length]; rw [List.length_reverse] at hi; exact hi
    · have hi : i < ds.length := by
        have := (List.getElem?_eq_some_iff.mp hd).1
        rwa [List.length_reverse] at this
      rw [List.getElem?_reverse hi] at hd
      obtain ⟨v, hv, rv⟩ := rs.get hd
      rw [← rs.length] at hv
      refine ⟨⟨by rw [rs.length]; exact hi, vs, v, SqL.of hq2, hv⟩, fun x H' hy => ?_⟩
      obtain ⟨rfl, hx⟩ := hy
      have e := (hx vs (SqL.of hq2)).symm.trans hv
      cases e
      exact ⟨Same.refl _, fun M' h1 h2 => R.mv kp h2 d _ rv⟩)
/-- the signs of a text -/
def signs (x : Str) : List D := x.cps.toList.map fun c => D.str ⟨#[c]⟩
theorem iv_str {φ : List D → γ → Prop} (h : PEv X W g ρ e fun d g1 => ∃ x, d = .str x ∧ φ (signs x) g1) : PIv X W g ρ tg e φ := fun M0 σ H Q r k =>
  toI (pi_str pe_c) (h M0 σ H _ r fun v d g1 H1 x1 j1 r1 p => by
    obtain ⟨x, rfl, p⟩ := p
    refine ⟨x, r1, k _ _ g1 H1 x1 j1 (fun i H2 kp dm => ⟨fun hi => ?_, fun d hd => ?_⟩) p⟩
    · show x.cps.size ≤ i
      simpa [signs] using hi
    · unfold signs at hd
      rw [List.getElem?_map] at hd
      cases e : x.cps.toList[i]? with
      | none => rw [e] at hd; cases hd
      | some c =>
        rw [e] at hd
        cases hd
        have hi := (List.getElem?_eq_some_iff.mp e).1
        refine ⟨(show i < x.cps.size by simpa using hi), fun y H' hy => ?_⟩
        obtain ⟨rfl, c', hc', rfl⟩ := hy
        have e' : x.cps[i]? = some c := by simpa using e
        rw [hc'] at e'
        cases e'
        exact ⟨Same.refl _, fun _ _ _ => rfl⟩)


/-! ### comprehensions -/
/-- the contexts of a comprehension's block -/
abbrev InBlk (X : Cx) (scope : Scope) (F : Cx → Prop) : Prop := ∀ (s : Shared) (H : Hp) (C : Addr) (cl : List (Str × Addr)) (fp : List Addr), F (X.blk s H scope (compEnvC scope cl C X.env) fp)
def tIn (X : Cx) (scope : Scope) (F : Cx → TE) : TE := fun σ H Q => InBlk X scope fun Y => F Y σ H Q
def tInT (X : Cx) (scope : Scope) (F : Cx → TT) : TT := fun σ H Q => InBlk X scope fun Y => F Y σ H Q
def tInG (X : Cx) (scope : Scope) (F : Cx → TG) : TG := fun v σ H Q => InBlk X scope fun Y => F Y v σ H Q
def cTs (X : Cx) : List Expr → TT
  | [] => tYes
  | [c] => cT X c
  | _ => fun _ _ _ => False
theorem pts_c {ifs : List Expr} : PTs X ifs (cTs X ifs) := by
  match ifs with
  | [] => exact pts_nil
  | [c] => exact pts_one pt_c
  | _ :: _ :: _ => exact ⟨fun _ _ _ _ _ _ h => h.elim⟩
def PTsv (X : Cx) (W : Wd γ) (g : γ) (ρ : Sl) (ifs : List Expr) (φ : Bool → γ → Prop) : Prop := ∀ M0 σ H (Q : Bool → Hp → Prop), RS W M0 g ρ σ H →
  (∀ b g' H', Ext W H H' → W.J g' H' → φ b g' → Q b H') → cTs X ifs σ H Q
theorem tsv_nil {φ : Bool → γ → Prop} (h : φ true g) : PTsv X W g ρ [] φ := fun M0 σ H Q r k => k true g H Ext.refl r.j h
theorem tsv_one {φ : Bool → γ → Prop} {c : Expr} (h : PTv X W g ρ c φ) : PTsv X W g ρ [c] φ := fun M0 σ H Q r k => h M0 σ H Q r k
variable {scope : Scope} {elt iter : Expr} {ifs : List Expr} {own : List (Str × Nat)} {js : List Nat}
theorem lc_go {M0 : Addr → Prop} {σ : L2.St} {H : Hp} {Q : VK} {φ : List D → γ → Prop} (Iv : Nat → List D → γ → Prop)
    (h : PIv X W g ρ tg iter fun ds g1 => ds.length ≤ sizeLine ∧ Iv 0 [] g1 ∧
      (∀ i d acc g2, ds[i]? = some d → Iv i acc g2 → InBlk X scope fun Y => PGv Y W g2 (wipeS ρ (own.map (·.2))) tg d js fun ρ3 g3 => owns ρ3 = owns ρ ∧
        InBlk X scope fun Y => PTsv Y W g3 ρ3 ifs fun b g4 => (b = true → InBlk X scope fun Y => PEv Y W g4 ρ3 elt fun r g5 => Iv (i + 1) (acc ++ [r]) g5) ∧ (b = false → Iv (i + 1) acc g4)) ∧
      ∀ acc g2, Iv ds.length acc g2 → φ acc g2)
    (hj : ∀ i ∈ js, i ∈ own.map (·.2)) (r : RS W M0 g ρ σ H) (k : ∀ p vs ds g' H', Ext W H H' → W.J g' H' → H p = none → H' p = some (.lst vs) → Rs (fun a => MM W M0 ρ a ∨ a = p) H' ds vs → φ ds g' → Q (.ref p) H') :
    tLc (cI X tg iter) (tInG X scope fun Y => cG Y tg) (tInT X scope fun Y => cTs Y ifs) (tIn X scope fun Y => cE Y elt) (own.map (·.2)) σ H Q := by
  refine h M0 σ H _ r fun J ds g1 H1 x1 j1 ok p D hD => ?_
  obtain ⟨hz, i0, turn, fin⟩ := p
  have r1 := r.ext x1 j1
  have nD : ¬ MM W M0 ρ D := r1.fresh hD
  have hD0 : H D = none := by
    cases z : H D with
    | none => rfl
    | some o => exact absurd hD (x1.dm D (by rw [z]; exact fun z => nomatch z))
  -- what holds at each turn
  refine ⟨fun i m H' => m = ds.length - i ∧ i ≤ ds.length ∧ ∃ acc vs g', Iv i acc g' ∧ acc.length ≤ i ∧ H' D = some (.lst vs) ∧ Rs (fun a => MM W M0 ρ a ∨ a = D) H' acc vs ∧ Ext W H1 H' ∧ W.J g' H', ⟨ds.length, by simp, Nat.zero_le _, [], [], g1, i0, Nat.le_refl _, upd_same, rfl, Ext.of_same (same_new hD), W.same j1 (same_new hD)⟩, ?_⟩
  rintro i m H2 ⟨rfl, hi, acc, vs, g2, iv, ha, hDv, rs, x2, j2⟩
  have st := ok i H2 (fun a o ha n => x2.kp a o ha fun z => n (.inr (.inl z))) x2.dm
  by_cases hlt : i < ds.length
  · have hd : ds[i]? = some ds[i] := List.getElem?_eq_getElem hlt
    obtain ⟨go, yl⟩ := st.2 _ hd
    refine .inr ⟨go, fun H' => i + 1 ≤ ds.length ∧ ∃ acc vs g', Iv (i + 1) acc g' ∧ acc.length ≤ i + 1 ∧ H' D = some (.lst vs) ∧ Rs (fun a => MM W M0 ρ a ∨ a = D) H' acc vs ∧ Ext W H1 H' ∧ W.J g' H', fun H' q => ⟨ds.length - (i + 1), by omega, rfl, q⟩, fun x H3 hy => ?_⟩
    obtain ⟨sm3, rx⟩ := yl x H3 hy
    have x3 : Ext W H1 H3 := x2.trans (Ext.of_same sm3)
    have j3 : W.J g2 H3 := W.same j2 sm3
    have dm3 : H3 D ≠ none := by rw [sm3 D _ hDv]; exact fun z => nomatch z
    have r3 := r1.ext x3 j3
    have r3w : RS W (fun a => M0 a ∨ a = D) g2 (wipeS ρ (own.map (·.2))) (L2.wipe σ (own.map (·.2))) H3 := by
      have q := r3.wipe (own.map (·.2))
      refine ⟨q.j, fun a z => ?_, fun p hp => ⟨fun z => ?_, (q.own p hp).2⟩, q.nd, q.len, fun n s hs => ?_⟩
      · rcases z with z | z
        · exact q.m0 a z
        · rw [z]; exact dm3
      · rcases z with z | z
        · exact (q.own p hp).1 z
        · refine nD (.inr (.inr ?_))
          rw [← z]
          exact owns_wipe ρ _ p hp
      · -- the slots' data were made ahead of the list
        have q0 := ((r1.wipe (own.map (·.2)))).sl n s hs
        have kp : ∀ a o, H1 a = some o → ¬ MM W M0 (wipeS ρ (own.map (·.2))) a → H3 a = some o := fun a o e n => x3.kp a o e fun z => n (.inr (.inl z))
        have up : ∀ a, H1 a ≠ none → MM W (fun a => M0 a ∨ a = D) (wipeS ρ (own.map (·.2))) a → MM W M0 (wipeS ρ (own.map (·.2))) a := fun a ha z => by
          rcases z with (z | z) | z
          · exact .inl z
          · rw [z] at ha; exact absurd hD ha
          · exact .inr z
        cases s with
        | no => trivial
        | val d =>
          obtain ⟨v, e1, e2⟩ := q0
          exact ⟨v, e1, R.mv kp up d v e2⟩
        | own p es =>
          obtain ⟨e1, ws, e2, e3⟩ := q0
          exact ⟨e1, ws, x3.kp p _ e2 (q.own p (mem_owns.mpr ⟨n, es, hs⟩)).2, Rs.mv kp up es ws e3⟩
    intro s0 K0 C0 cl0 fp0
    refine turn i _ acc g2 hd iv s0 K0 C0 cl0 fp0 _ _ H3 x _ r3w (rx _ (fun a z => ?_) fun a ha z => ?_) fun ρ4 g4 σ4 H4 r4 s4 o4 w4 p4 => ?_
    · have dmm : ∀ a, MM W (fun a => M0 a ∨ a = D) (wipeS ρ (own.map (·.2))) a → H2 a ≠ none := fun a z => by
        rcases z with (z | z) | z | z
        · exact x2.dm a (r1.m0 a z)
        · rw [z, hDv]; exact fun z => nomatch z
        · exact x2.dm a (W.dom g1 H1 a j1 z)
        · exact x2.dm a (r1.ne (owns_wipe ρ _ a z))
      exact dmm a z
    · rcases z with (z | z) | z | z
      · exact .inl z
      · rw [z] at ha; exact absurd hD ha
      · exact .inr (.inl z)
      · exact .inr (.inr (owns_wipe ρ _ a z))
    · obtain ⟨ow4, p4⟩ := p4
      refine ⟨(w4 _ hj).trans wipe_wipe, ?_⟩
      have x4 : Ext W H1 H4 := x3.trans s4
      · have hD4 : H4 D = some (.lst vs) := s4.kp D _ (sm3 D _ hDv) (fun z => nD (.inr (.inl z)))
        have rs4 : Rs (fun a => MM W M0 ρ a ∨ a = D) H4 acc vs := Rs.mv (fun a o e n => s4.kp a o (sm3 a o e) (fun z => n (.inl (.inr (.inl z))))) (fun _ _ z => z) acc vs rs
        intro s1 K1 C1 cl1 fp1
        refine p4 s1 K1 C1 cl1 fp1 _ σ4 H4 _ r4 fun b g5 H5 x5 j5 p5 => ?_
        have hD5 : H5 D = some (.lst vs) := x5.kp D _ hD4 fun z => nD (.inr (.inl z))
        have rs5 : Rs (fun a => MM W M0 ρ a ∨ a = D) H5 acc vs := Rs.mv (fun a o e n => x5.kp a o e fun z => n (.inl (.inr (.inl z)))) (fun _ _ z => z) acc vs rs4
        cases b with
        | false =>
          rw [if_neg Bool.false_ne_true]
          exact ⟨by omega, acc, vs, g5, p5.2 rfl, by omega, hD5, rs5, x4.trans x5, j5⟩
        | true =>
          rw [if_pos rfl]
          intro s2 K2 C2 cl2 fp2
          refine p5.1 rfl s2 K2 C2 cl2 fp2 _ σ4 H5 _ (r4.ext x5 j5) fun v d g6 H6 x6 j6 r6 p6 => ?_
          have hD6 : H6 D = some (.lst vs) := x6.kp D _ hD5 fun z => nD (.inr (.inl z))
          refine ⟨vs, hD6, by rw [rs.length]; exact Nat.lt_of_le_of_lt ha (Nat.lt_of_lt_of_le hlt hz), by omega, acc ++ [d], vs ++ [v], g6, p6, by rw [List.length_append]; show acc.length + 1 ≤ i + 1; omega, upd_same, ?_, ?_, ?_⟩
          · have kp6 : ∀ a o, H6 a = some o → ¬ (MM W M0 ρ a ∨ a = D) → upd H6 D (.lst (vs ++ [v])) a = some o := fun a o e n => by
              rw [upd_ne (fun z => n (.inr z))]; exact e
            refine Rs.snoc (Rs.mv (fun a o e n => kp6 a o (x6.kp a o e fun z => n (.inl (.inr (.inl z)))) n) (fun _ _ z => z) acc vs rs5) ?_
            refine R.mv (fun a o e n => ?_) (fun a _ z => ?_) d v r6
            · rw [upd_ne (fun z => n (.inl (.inr z)))]; exact e
            · rcases z with (z | z | z) | z
              · exact .inl (.inl z)
              · exact .inr (.inl z)
              · exact .inr (.inr (by rw [ow4]; exact z))
              · exact .inl (.inr z)
          · have x16 := (x4.trans x5).trans x6
            refine ⟨fun a o e n => ?_, fun a h => ?_⟩
            · rw [upd_ne (fun z => by rw [z, hD] at e; cases e)]
              exact x16.kp a o e n
            · by_cases z : a = D
              · rw [z, upd_same]; exact fun z => nomatch z
              · rw [upd_ne z]; exact x16.dm a h
          · exact W.loc g6 H6 _ j6 fun a o ma e => by
              rw [upd_ne (fun z => nD (by rw [← z]; exact .inr (.inl ma)))]; exact e
  · have e : i = ds.length := by omega
    subst e
    refine .inl ⟨st.1 (Nat.le_refl _), ?_⟩
    have x := x1.trans x2
    exact k D vs acc g2 H2 x j2 hD0 hDv rs (fin acc g2 iv)
end
end Co
/-! PL7: comprehensions as rules; statements; defs. -/
namespace Co
open PySem PySem.Spec PyProof.Rows L2

section
variable {γ : Type} {X : Cx} {W : Wd γ} {g : γ} {ρ : Sl} {e a b tg c : Expr} {es : List Expr} {pos : Pos}
variable {scope : Scope} {elt iter : Expr} {ifs : List Expr} {own : List (Str × Nat)} {js : List Nat}

/-! ### comprehensions -/
theorem pe_lc_c (hc : X.calm = true) (hN : X.N.Nodup) (ok : BlkOk X.N X.env.scope scope own) (hs : ∀ x, foldedSetIterable iter X.env x = pure x := by intro _; rfl) :
    PE X (.ListComp elt [⟨tg, iter, ifs, 0⟩] scope pos) (tLc (cI X tg iter) (tInG X scope fun Y => cG Y tg) (tInT X scope fun Y => cTs Y ifs) (tIn X scope fun Y => cE Y elt) (own.map (·.2))) :=
  pe_lc hc hN pi_c ok (fun s H C cl fp => ⟨fun pins s' _ _ _ u _ I r h => h s H C cl fp pins s' u I r⟩) (fun s H C cl fp => ⟨fun pins s' σ H' Q I h => pts_c.run pins s' σ H' Q I (h s H C cl fp)⟩) (fun s H C cl fp => ⟨fun pins s' _ _ _ I h => h s H C cl fp pins s' I⟩) hs
/-- what is asked of a comprehension -/
abbrev LcAsk (X : Cx) (W : Wd γ) (g : γ) (ρ : Sl) (tg iter elt : Expr) (ifs : List Expr) (scope : Scope) (own : List (Str × Nat)) (φ : List D → γ → Prop) (Iv : Nat → List D → γ → Prop) : Prop :=
  PIv X W g ρ tg iter fun ds g1 => ds.length ≤ sizeLine ∧ Iv 0 [] g1 ∧
      (∀ i d acc g2, ds[i]? = some d → Iv i acc g2 → InBlk X scope fun Y => PGv Y W g2 (wipeS ρ (own.map (·.2))) tg d (own.map (·.2)) fun ρ3 g3 => owns ρ3 = owns ρ ∧
        InBlk X scope fun Y => PTsv Y W g3 ρ3 ifs fun b g4 => (b = true → InBlk X scope fun Y => PEv Y W g4 ρ3 elt fun r g5 => Iv (i + 1) (acc ++ [r]) g5) ∧ (b = false → Iv (i + 1) acc g4)) ∧
      ∀ acc g2, Iv ds.length acc g2 → φ acc g2
theorem ef_lc {φ : List D → γ → Prop} (own : List (Str × Nat)) (Iv : Nat → List D → γ → Prop) (h : LcAsk X W g ρ tg iter elt ifs scope own φ Iv) (hc : X.calm = true := by rfl) (hN : X.N.Nodup := by assumption) (ok : blkC X.N X.env.scope scope own = true := by kernel_rfl)
    (hs : ∀ x, foldedSetIterable iter X.env x = pure x := by intro _; rfl) : PEf X W g ρ (.ListComp elt [⟨tg, iter, ifs, 0⟩] scope pos) φ := fun M0 σ H Q r k =>
  toE (pe_lc_c hc hN (blkOk_by ok) hs) (lc_go (js := own.map (·.2)) Iv h (fun _ z => z) r k)
theorem ev_lc {φ : D → γ → Prop} (own : List (Str × Nat)) (Iv : Nat → List D → γ → Prop) (h : LcAsk X W g ρ tg iter elt ifs scope own (fun ds g' => φ (.lst ds) g') Iv) (hc : X.calm = true := by rfl) (hN : X.N.Nodup := by assumption) (ok : blkC X.N X.env.scope scope own = true := by kernel_rfl)
    (hs : ∀ x, foldedSetIterable iter X.env x = pure x := by intro _; rfl) : PEv X W g ρ (.ListComp elt [⟨tg, iter, ifs, 0⟩] scope pos) φ :=
  (ef_lc own Iv h hc hN ok hs).ev

/-! ### statements -/
structure En (γ : Type) where
  nx : Sl → γ → Prop
  rt : D → γ → Prop
  bk : Sl → γ → Prop := fun _ _ => False
  ct : Sl → γ → Prop := fun _ _ => False
/-- the ends of a statement, met -/
structure Met (W : Wd γ) (M0 : Addr → Prop) (ρ : Sl) (H : Hp) (E : En γ) (D : Ends) : Prop where
  nx : ∀ ρ' g' σ' H', RS W M0 g' ρ' σ' H' → Stp W ρ ρ' H H' → E.nx ρ' g' → D.nx σ' H'
  rt : ∀ v d g' ρ' H', Stp W ρ ρ' H H' → W.J g' H' → R (fun a => M0 a ∨ W.mj a) H' d v → E.rt d g' → D.rt v H'
  bk : ∀ ρ' g' σ' H', RS W M0 g' ρ' σ' H' → Stp W ρ ρ' H H' → E.bk ρ' g' → D.bk σ' H'
  ct : ∀ ρ' g' σ' H', RS W M0 g' ρ' σ' H' → Stp W ρ ρ' H H' → E.ct ρ' g' → D.ct σ' H'
theorem Met.stp {M0 : Addr → Prop} {ρ1 : Sl} {H H1 : Hp} {E : En γ} {D : Ends} (m : Met W M0 ρ H E D) (s : Stp W ρ ρ1 H H1) : Met W M0 ρ1 H1 E D :=
  ⟨fun ρ' g' σ' H' r t => m.nx ρ' g' σ' H' r (s.trans t), fun v d g' ρ' H' t => m.rt v d g' ρ' H' (s.trans t), fun ρ' g' σ' H' r t => m.bk ρ' g' σ' H' r (s.trans t), fun ρ' g' σ' H' r t => m.ct ρ' g' σ' H' r (s.trans t)⟩
def PSv (X : Cx) (W : Wd γ) (g : γ) (ρ : Sl) (st : Stmt) (E : En γ) : Prop := ∀ M0 σ H (D : Ends), RS W M0 g ρ σ H → Met W M0 ρ H E D → cS X st D σ H
def PSsv (X : Cx) (W : Wd γ) (g : γ) (ρ : Sl) (sts : List Stmt) (E : En γ) : Prop := ∀ M0 σ H (D : Ends), RS W M0 g ρ σ H → Met W M0 ρ H E D → cSs X sts D σ H
variable {E : En γ} {st : Stmt} {sts body els : List Stmt}
theorem ss_nil (h : E.nx ρ g) : PSsv X W g ρ [] E := fun M0 σ H D r m => toSs pss_nil (m.nx ρ g σ H r Stp.refl h)
theorem ss_cons (h : PSv X W g ρ st { E with nx := fun ρ' g' => PSsv X W g' ρ' sts E }) : PSsv X W g ρ (st :: sts) E := fun M0 σ H D r m =>
  toSs (pss_cons ps_c pss_c) (h M0 σ H { D with nx := cSs X sts D } r ⟨fun ρ' g' σ' H' r' t p => p M0 σ' H' D r' (m.stp t), m.rt, m.bk, m.ct⟩)
theorem ss_one (h : PSv X W g ρ st E) : PSsv X W g ρ [st] E := fun M0 σ H D r m => toSs (pss_one ps_c) (h M0 σ H D r m)
theorem s_pass (h : E.nx ρ g) : PSv X W g ρ (.Pass pos) E := fun M0 σ H D r m => toS ps_pass (m.nx ρ g σ H r Stp.refl h)
theorem s_doc {x : Str} {j : Nat} {pos' : Pos} (h : E.nx ρ g) : PSv X W g ρ (.Expr (.Constant (.str x) j pos) pos') E := fun M0 σ H D r m => toS ps_doc (m.nx ρ g σ H r Stp.refl h)
theorem s_break (h : E.bk ρ g) : PSv X W g ρ (.Break pos) E := fun M0 σ H D r m => toS ps_break (m.bk ρ g σ H r Stp.refl h)
theorem s_cont (h : E.ct ρ g) : PSv X W g ρ (.Continue pos) E := fun M0 σ H D r m => toS ps_continue (m.ct ρ g σ H r Stp.refl h)
theorem rel_rt {M0 : Addr → Prop} {H : Hp} {d : D} {v : V} (h : R (MM W M0 ρ) H d v) : R (fun a => M0 a ∨ W.mj a) H d v := R.mv (fun _ _ e _ => e) (fun a _ z => by
  rcases z with z | z
  · exact .inl z
  · exact .inr (.inl z)) d v h
theorem s_ret (h : PEv X W g ρ e E.rt) : PSv X W g ρ (.Return (some e) pos) E := fun M0 σ H D r m =>
  toS (ps_ret pe_c) (h M0 σ H _ r fun v d g1 H1 x1 j1 r1 p => m.rt v d g1 ρ H1 (Stp.of_ext x1) j1 (rel_rt r1) p)
theorem s_retN (h : E.rt .non g) : PSv X W g ρ (.Return none pos) E := fun M0 σ H D r m => toS ps_retN (m.rt .non .non g ρ H Stp.refl r.j rfl h)
theorem s_if (h : PTv X W g ρ c fun k g1 => (k = true → PSsv X W g1 ρ body E) ∧ (k = false → PSsv X W g1 ρ els E)) : PSv X W g ρ (.If c body els pos) E := fun M0 σ H D r m =>
  toS (ps_if pt_c pss_c pss_c) (h M0 σ H _ r fun k g1 H1 x1 j1 p => by
    cases k with
    | true => rw [if_pos rfl]; exact p.1 rfl M0 σ H1 D (r.ext x1 j1) (m.stp (Stp.of_ext x1))
    | false => rw [if_neg Bool.false_ne_true]; exact p.2 rfl M0 σ H1 D (r.ext x1 j1) (m.stp (Stp.of_ext x1)))
theorem s_expr (h : PEv X W g ρ e fun _ g1 => E.nx ρ g1) (hs : swapsWith e none pos.line X.env = pure false := by rfl) : PSv X W g ρ (.Expr e pos) E := fun M0 σ H D r m =>
  toS (ps_expr pe_c hs) (h M0 σ H _ r fun v d g1 H1 x1 j1 r1 p => m.nx ρ g1 σ H1 (r.ext x1 j1) (Stp.of_ext x1) p)
theorem s_never : False → PSv X W g ρ st E := fun h => h.elim
/-- name = e -/
theorem s_set (i : Nat) {x : Str} {pos' : Pos} (h : PEv X W g ρ e fun d g1 => E.nx (ρ.set i (.val d)) g1) (hN : X.N.Nodup := by assumption) (hi : X.N[i]? = some x := by rfl) (hx : Loc X.env.scope x := by first | exact Or.inl rfl | exact Or.inr rfl)
    (hs : swapsWith e (some (.Name x pos')) pos.line X.env = pure false := by rfl) (hf : X.fn x = true ∨ X.env.scope.names.lookup x = some .local := by first | exact .inl rfl | exact .inr rfl) : PSv X W g ρ (.Assign [.Name x pos'] e pos) E := fun M0 σ H D r m =>
  toS (ps_set hN hi hx pe_c hs hf) (h M0 σ H _ r fun v d g1 H1 x1 j1 r1 p => m.nx _ g1 _ H1 ((r.ext x1 j1).set r1 i) ((Stp.of_ext x1).trans Stp.set) p)
/-- name = a new list, the def's own -/
theorem s_own (i : Nat) {x : Str} {pos' : Pos} (h : PEf X W g ρ e fun ds g1 => ∀ p, E.nx (ρ.set i (.own p ds)) g1) (hN : X.N.Nodup := by assumption) (hi : X.N[i]? = some x := by rfl) (hx : Loc X.env.scope x := by first | exact Or.inl rfl | exact Or.inr rfl)
    (hs : swapsWith e (some (.Name x pos')) pos.line X.env = pure false := by rfl) (hf : X.fn x = true ∨ X.env.scope.names.lookup x = some .local := by first | exact .inl rfl | exact .inr rfl) : PSv X W g ρ (.Assign [.Name x pos'] e pos) E := fun M0 σ H D r m =>
  toS (ps_set hN hi hx pe_c hs hf) (h M0 σ H _ r fun p vs ds g1 H1 x1 j1 hn hp rs q => (r.setOwn x1 j1 hn hp rs i).elim fun a b => m.nx _ g1 _ H1 a b (q p))
/-- name = [.. for ..] -/
theorem s_setLc (i : Nat) {x : Str} {py spos : Pos} (own : List (Str × Nat)) (Iv : Nat → List D → γ → Prop) (h : LcAsk X W g ρ tg iter elt ifs scope own (fun ds g1 => E.nx (ρ.set i (.val (.lst ds))) g1) Iv)
    (hsw : swapsWith (.ListComp elt [⟨tg, iter, ifs, 0⟩] scope pos) (some (.Name x py)) spos.line X.env = pure true := by exact sw_true rfl rfl rfl (by decide +kernel)) (hc : X.calm = true := by rfl) (hN : X.N.Nodup := by assumption) (hi : X.N[i]? = some x := by rfl) (hx : X.env.scope.names.lookup x = some .local := by rfl)
    (ok : blkC X.N X.env.scope scope own = true := by kernel_rfl) (hs : ∀ x, foldedSetIterable iter X.env x = pure x := by intro _; rfl) : PSv X W g ρ (.Assign [.Name x py] (.ListComp elt [⟨tg, iter, ifs, 0⟩] scope pos) spos) E := fun M0 σ H D r m =>
  toS (ps_setLc hc hN hi hx hsw pi_c (blkOk_by ok) (fun s H C cl fp => ⟨fun pins s' _ _ _ u _ I r h => h s H C cl fp pins s' u I r⟩) (fun s H C cl fp => ⟨fun pins s' σ H' Q I h => pts_c.run pins s' σ H' Q I (h s H C cl fp)⟩) (fun s H C cl fp => ⟨fun pins s' _ _ _ I h => h s H C cl fp pins s' I⟩) hs)
    (lc_go (js := own.map (·.2)) Iv h (fun _ z => z) r fun p vs ds g1 H1 x1 j1 hn hp rs q => (by
      have rr := r.ext x1 j1
      exact m.nx _ g1 _ H1 (rr.set (d := .lst ds) (v := .ref p) ⟨p, vs, rfl, r.fresh hn, hp, Rs.mv (fun _ _ e _ => e) (fun _ _ z => .inl z) ds vs rs⟩ i) ((Stp.of_ext x1).trans Stp.set) q : gName i (.ref p) σ H1 D.nx))
/-- target = e, by a value -/
theorem s_asg (h : PEv X W g ρ e fun d g1 => PGw X W g1 ρ tg d E.nx) (hs : swapsWithSole [tg] e pos.line X.env = pure false := by rfl) (hw : swappedStores [tg] e X.env = pure none := by rfl)
    (h1 : (assignEach [tg] X.env).map (·.2) = [assign tg X.env] := by rfl) : PSv X W g ρ (.Assign [tg] e pos) E := fun M0 σ H D r m =>
  toS (ps_asg pe_c pg_c hs hw h1) (h M0 σ H _ r fun v d g1 H1 x1 j1 r1 p => p M0 σ H1 v _ (r.ext x1 j1) r1 fun ρ2 g2 σ2 H2 r2 x2 o2 q => m.nx ρ2 g2 σ2 H2 r2 ((Stp.of_ext x1).trans ((Stp.of_ext x2).sub o2)) q)
/-- name op= e, ints -/
theorem s_aug (i : Nat) {x : Str} {op : Operator} {k : Int → Int → Int} {pos' : Pos} (ho : PIp X op (ipI k)) {n : Int} (hd : ρ[i]? = some (.val (.int n))) (h : PEv X W g ρ e fun d g1 => ∃ j, d = .int j ∧ E.nx (ρ.set i (.val (.int (k n j)))) g1)
    (hN : X.N.Nodup := by assumption) (hi : X.N[i]? = some x := by rfl) (hx : Loc X.env.scope x := by first | exact Or.inl rfl | exact Or.inr rfl)
    (hf : X.fn x = true ∨ X.env.scope.names.lookup x = some .local := by first | exact .inl rfl | exact .inr rfl) : PSv X W g ρ (.AugAssign (.Name x pos') op e pos) E := fun M0 σ H D r m => by
  obtain ⟨v, e1, rv⟩ := r.sl i _ hd
  refine toS (ps_aug hN hi hx pe_c ho hf) ⟨v, e1, h M0 σ H _ r fun w d g1 H1 x1 j1 r1 p => ?_⟩
  obtain ⟨j, rfl, p⟩ := p
  exact ⟨n, j, rv, r1, m.nx _ g1 _ H1 ((r.ext x1 j1).set (d := .int (k n j)) rfl i) ((Stp.of_ext x1).trans Stp.set) p⟩
/-- what a pair of new things may be: a datum, a list of the def's own -/
def PAs (X : Cx) (W : Wd γ) (g : γ) (ρ : Sl) (a b : Expr) (fa fb : Bool) (φ : Slot → Slot → γ → Prop) : Prop :=
  (if fa then PEf X W g ρ a else fun q => PEv X W g ρ a fun d g1 => q [d] g1) fun ds g1 => (if fb then PEf X W g1 ρ b else fun q => PEv X W g1 ρ b fun d g2 => q [d] g2) fun es g2 =>
    ∀ p q, φ (if fa then .own p ds else .val (ds.getD 0 .non)) (if fb then .own q es else .val (es.getD 0 .non)) g2
/-- x, y = a, b: two data -/
theorem s_par (i j : Nat) {x y : Str} {px py pt pt2 : Pos} {kt k2 : Nat} (h : PEv X W g ρ a fun d g1 => PEv X W g1 ρ b fun d2 g2 => E.nx ((ρ.set i (.val d)).set j (.val d2)) g2) (hN : X.N.Nodup := by assumption) (hi : X.N[i]? = some x := by rfl) (hj : X.N[j]? = some y := by rfl) (hij : i ≠ j := by decide)
    (hx : X.env.scope.names.lookup x = some .local := by rfl) (hy : X.env.scope.names.lookup y = some .local := by rfl) (hc : X.calm = true := by rfl) (ha : starEach [a, b] X.env = [(false, eval a X.env), (false, eval b X.env)] := by rfl) (hb : starEach [b] X.env = [(false, eval b X.env)] := by rfl)
    (hw : swappedStores [.Tuple [.Name x px, .Name y py] kt pt] (.Tuple [a, b] k2 pt2) X.env = pure (some [x, y]) := by rfl)
    (hs : swapsWithSole [.Tuple [.Name x px, .Name y py] kt pt] (.Tuple [a, b] k2 pt2) pos.line X.env = pure false := by rfl) : PSv X W g ρ (.Assign [.Tuple [.Name x px, .Name y py] kt pt] (.Tuple [a, b] k2 pt2) pos) E := fun M0 σ H D r m =>
  toS (ps_par hc hN hi hj hij hx hy (pa_cons pe_c (pa_cons pe_c pa_nil (by rw [hb]; rfl)) (by rw [ha, hb])) hw hs) (h M0 σ H _ r fun v d g1 H1 x1 j1 r1 p => p M0 σ H1 _ (r.ext x1 j1) fun v2 d2 g2 H2 x2 j2 r2 p => by
    refine ⟨v, v2, rfl, m.nx _ g2 _ H2 ?_ (((Stp.of_ext (x1.trans x2)).trans Stp.set).trans Stp.set) p⟩
    have rr := (r.ext x1 j1).ext x2 j2
    exact (rr.set (RS.mono x2 r1) i).set (R.mv (fun _ _ e _ => e) (fun _ _ z => MM_set rfl z) d2 v2 r2) j)
/-- x, y = a, b: the first a new list -/
theorem s_parO (i j : Nat) {x y : Str} {px py pt pt2 : Pos} {kt k2 : Nat} (h : PEf X W g ρ a fun ds g1 => PEv X W g1 ρ b fun d2 g2 => ∀ p, E.nx ((ρ.set i (.own p ds)).set j (.val d2)) g2) (hN : X.N.Nodup := by assumption) (hi : X.N[i]? = some x := by rfl) (hj : X.N[j]? = some y := by rfl) (hij : i ≠ j := by decide)
    (hx : X.env.scope.names.lookup x = some .local := by rfl) (hy : X.env.scope.names.lookup y = some .local := by rfl) (hc : X.calm = true := by rfl) (ha : starEach [a, b] X.env = [(false, eval a X.env), (false, eval b X.env)] := by rfl) (hb : starEach [b] X.env = [(false, eval b X.env)] := by rfl)
    (hw : swappedStores [.Tuple [.Name x px, .Name y py] kt pt] (.Tuple [a, b] k2 pt2) X.env = pure (some [x, y]) := by rfl)
    (hs : swapsWithSole [.Tuple [.Name x px, .Name y py] kt pt] (.Tuple [a, b] k2 pt2) pos.line X.env = pure false := by rfl) : PSv X W g ρ (.Assign [.Tuple [.Name x px, .Name y py] kt pt] (.Tuple [a, b] k2 pt2) pos) E := fun M0 σ H D r m => by
  refine toS (ps_par hc hN hi hj hij hx hy (pa_cons pe_c (pa_cons pe_c pa_nil (by rw [hb]; rfl)) (by rw [ha, hb])) hw hs) (h M0 σ H _ r fun p vs ds g1 H1 x1 j1 hn hp rs q => ?_)
  -- the list is held apart while the second is found
  obtain ⟨r1, s1⟩ := r.setOwn x1 j1 hn hp rs i
  have rr := r.ext x1 j1
  have up : ∀ a, MM W (fun a => M0 a ∨ a = p) ρ a → MM W M0 ρ a ∨ a = p := fun a z => by
    rcases z with (z | z) | z
    · exact .inl (.inl z)
    · exact .inr z
    · exact .inl (.inr z)
  have np := r.fresh hn
  have rp : RS W (fun a => M0 a ∨ a = p) g1 ρ σ H1 := by
    refine ⟨rr.j, fun a z => ?_, fun q hq => ⟨fun z => ?_, (rr.own q hq).2⟩, rr.nd, rr.len, fun n s hs => ?_⟩
    · rcases z with z | z
      · exact rr.m0 a z
      · rw [z, hp]; exact fun z => nomatch z
    · rcases z with z | z
      · exact (rr.own q hq).1 z
      · exact np (.inr (.inr (by rw [← z]; exact hq)))
    · have q0 := r.sl n s hs
      have kp : ∀ a o, H a = some o → ¬ MM W M0 ρ a → H1 a = some o := fun a o e n => x1.kp a o e fun z => n (.inr (.inl z))
      have up2 : ∀ a, H a ≠ none → MM W (fun a => M0 a ∨ a = p) ρ a → MM W M0 ρ a := fun a ha z => by
        rcases up a z with z | z
        · exact z
        · rw [z] at ha; exact absurd hn ha
      cases s with
      | no => trivial
      | val d =>
        obtain ⟨v, e1, e2⟩ := q0
        exact ⟨v, e1, R.mv kp up2 d v e2⟩
      | own p' es =>
        obtain ⟨e1, ws, e2, e3⟩ := q0
        exact ⟨e1, ws, x1.kp p' _ e2 (r.own p' (mem_owns.mpr ⟨n, es, hs⟩)).2, Rs.mv kp up2 es ws e3⟩
  refine q _ σ H1 _ rp fun v2 d2 g2 H2 x2 j2 r2 p2 => ?_
  refine ⟨_, v2, rfl, ?_⟩
  have r1' := r1.ext x2 j2
  refine m.nx _ g2 _ H2 (r1'.set ?_ j) ((s1.trans (Stp.of_ext x2)).trans Stp.set) (p2 p)
  refine R.mv (fun _ _ e _ => e) (fun a _ z => ?_) d2 v2 r2
  obtain ⟨_, ow⟩ := owns_set_own (p := p) (ds := ds) ρ i r.nd (fun z => r.ne z hn)
  rcases z with z | z | z
  · exact .inl (.inl z)
  · exact .inr (.inl z)
  · rcases ow a z with z | z
    · exact .inl (.inr z)
    · exact .inr (.inr z)
/-- the def's own list grows -/
theorem s_append (i : Nat) {x : Str} {p : Addr} {ds : List D} {apos pos2 pos3 : Pos} (hd : ρ[i]? = some (.own p ds)) (h : PEv X W g ρ e fun d g1 => ds.length < sizeLine ∧ E.nx (ρ.set i (.own p (ds ++ [d]))) g1) (hN : X.N[i]? = some x := by rfl)
    (hv : Vis X.env.scope x := by first | exact Or.inl rfl | exact Or.inr (Or.inl rfl) | exact Or.inr (Or.inr rfl)) (h1 : (x == ("__debug__" : Str)) = false := by decide) (h2 : (x == ("__classdict__" : Str)) = false := by decide)
    (hs : swapsWith (.Call (.Attribute (.Name x pos2) "append" apos) [e] [] pos3) none pos.line X.env = pure false := by rfl)
    (q1 : attributeBase (.Name x pos2) "append" X.env (eval (.Name x pos2) X.env) = eval (.Name x pos2) X.env := by rfl)
    (q2 : ((backTo pos3 (starEach [e] X.env)).all (fun x => !x.1) && (backToKw pos3 (keywordEach [] X.env)).all (fun x => x.1.isSome) && decide (([e] : List Expr).length + ([] : List Keyword).length + (if ([] : List Keyword).isEmpty then 0 else 1) < 30)) = true := by rfl)
    (q3 : (apos.endLine == pos3.line) = true := by rfl) (q4 : starEach [e] X.env = (false, eval e X.env) :: starEach [] X.env := by rfl) : PSv X W g ρ (.Expr (.Call (.Attribute (.Name x pos2) "append" apos) [e] [] pos3) pos) E := fun M0 σ H D r m => by
  obtain ⟨e1, vs, hp, rs⟩ := r.sl i _ hd
  have hpo : p ∈ owns ρ := mem_owns.mpr ⟨i, ds, hd⟩
  refine toS (ps_expr (pe_bm PySem.F.plainAttrs_list PySem.F.slot_list_append PySem.F.type_list_append mt_append (pe_var hN hv h1 h2) (pa_cons pe_c pa_nil q4) q1 q2 q3 q4 (by rfl)) hs) ?_
  refine ⟨_, e1, .inl ⟨rfl, vs, SqL.of hp⟩, h M0 σ H _ r fun v d g1 H1 x1 j1 r1 q => ?_⟩
  have hp1 : H1 p = some (.lst vs) := x1.kp p _ hp (r.own p hpo).2
  have rr := r.ext x1 j1
  refine ⟨p, vs, v, rfl, rfl, hp1, by rw [rs.length]; exact q.1, ?_⟩
  obtain ⟨a, b⟩ := rr.updOwn hd (Rs.snoc (RS.monos x1 rs) r1)
  exact m.nx _ g1 _ _ a ((Stp.of_ext x1).trans b) q.2
end
end Co
namespace PySem.AutoSeq1
open PyProof PyProof.Rows
open PySem.MeetsSeq PySem.MeetsSeq2 PySem.MeetsSeq3
theorem list_extend_list_tuple_g (l : Addr) (items : Array Value) (n : Nat) (b : Addr) (items2 : Array Value) (n2 : Nat) (dd : Option Addr) (sl : Array (Option Value)) (hs0 : ¬(!items.isEmpty && Builtin.List.listTooLong (items.size + items2.size)) = true) (hs1 : items.size ≤ sizeLine) (hs2 : items.size + items2.size ≤ sizeLine + 1) :
    Meets (Builtin.«list.extend» ⟨[.ref l, .ref b], []⟩) (fun _ R s => s.heap.get? l = some { cls := .type "list", dict := none, data := .seq items n, slots := #[] } ∧ s.heap.get? b = some { cls := .type "tuple", dict := dd, data := .seq items2 n2, slots := sl } ∧ R (.ok (.ret Value.none)) { s with heap := s.heap.update l (Obj.mapSeq fun x => x ++ items2), toks := s.toks }) :=
  .of_wp fun prog w A R s h => by
    obtain ⟨hp, g, d, tk, os⟩ := s; obtain ⟨hl, hb, h⟩ := h; have f1 := idx_int; have f2 := sub_tuple_tuple; have f3 := sub_list_list; have f4 := sub_tuple_list; have f5 := sub_list_tuple;
    have hz' : (items ++ items2).size ≤ sizeLine + 1 := by rw [Array.size_append]; exact hs2
    wp_walk using (wpAny_updateSeq hl rfl (hz := hs1) (_hz' := hz')), wpAny_loadPart' hl, wpAny_loadPart' hb; exact ⟨_, rfl, h⟩
end PySem.AutoSeq1
namespace Co
open PySem PySem.Spec PyProof.Rows L2
/-- .. by a list or a tuple -/
def rExtT : V → List V → Hp → VK → Prop := fun x vs H Q => ∃ l b xs zs, x = .ref l ∧ vs = [.ref b] ∧ H l = some (.lst xs) ∧ H b = some (.tup zs) ∧ xs.length + zs.length ≤ sizeLine ∧ Q .non (upd H l (.lst (xs ++ zs)))
theorem mt_extendT {X : Cx} : MtM X "list.extend" rExtT := by
  intro pins s σ H x vs v us Q I rx rv h
  obtain ⟨l, b, xs, zs, rfl, rfl, hH, hB, hz, q⟩ := h
  cases rx
  obtain ⟨u, rfl, ru⟩ := rv.one
  cases ru
  obtain ⟨z, its, n, r, hl, e⟩ := I.lstM hH
  obtain ⟨its2, r2, ⟨⟨cls2, dd, dt, sl⟩, e2, hc2, n2, hd2⟩, _⟩ := I.tuple (SqT.of hB)
  simp only at hc2 hd2
  subst hc2 hd2
  have hl2 := r2.length
  have hsz : its.toArray.size + its2.toArray.size ≤ sizeLine := by rw [List.size_toArray, List.size_toArray]; omega
  have hlong : ¬ (!its.toArray.isEmpty && Builtin.List.listTooLong (its.toArray.size + its2.toArray.size)) = true := by
    rw [notLongL hsz, Bool.and_false]
    exact Bool.false_ne_true
  refine call_meets F.slot_list_extend ⟨_, e, rfl⟩ F.entry_list_extend (F.args_list_extend_2 _ _)
    (AutoSeq1.list_extend_list_tuple_g l its.toArray n b its2.toArray n2 dd sl hlong (by rw [List.size_toArray]; omega) (by omega)) ⟨e, e2, ?_⟩
  refine ⟨.non, _, I.lset (its' := its ++ its2) hH e (by simp) (r.append r2) ?_, rfl, q⟩
  rw [List.length_append]; exact hz
end Co
/-! PL8: loops; methods of built-in types; defs. -/
namespace Co
open PySem PySem.Spec PyProof.Rows L2

section
variable {γ : Type} {X : Cx} {W : Wd γ} {g : γ} {ρ : Sl} {e a b tg c iter : Expr} {es : List Expr} {pos : Pos} {js : List Nat}
variable {E : En γ} {st : Stmt} {sts body els : List Stmt}

/-- .. by a list or a tuple -/
theorem mt_extendA {X : Cx} : MtR X "list.extend" (fun x vs H Q => rExtend x vs H Q ∨ rExtT x vs H Q) := MtR.or mt_extend mt_extendT
theorem s_extend (i : Nat) {x : Str} {p : Addr} {ds : List D} {apos pos2 pos3 : Pos} (hd : ρ[i]? = some (.own p ds)) (h : PEb X W g ρ e fun d g1 => ∃ es, Seqd d = some es ∧ ds.length + es.length ≤ sizeLine ∧ E.nx (ρ.set i (.own p (ds ++ es))) g1) (hN : X.N[i]? = some x := by rfl)
    (hv : Vis X.env.scope x := by first | exact Or.inl rfl | exact Or.inr (Or.inl rfl) | exact Or.inr (Or.inr rfl)) (h1 : (x == ("__debug__" : Str)) = false := by decide) (h2 : (x == ("__classdict__" : Str)) = false := by decide)
    (hs : swapsWith (.Call (.Attribute (.Name x pos2) "extend" apos) [e] [] pos3) none pos.line X.env = pure false := by rfl)
    (q1 : attributeBase (.Name x pos2) "extend" X.env (eval (.Name x pos2) X.env) = eval (.Name x pos2) X.env := by rfl)
    (q2 : ((backTo pos3 (starEach [e] X.env)).all (fun x => !x.1) && (backToKw pos3 (keywordEach [] X.env)).all (fun x => x.1.isSome) && decide (([e] : List Expr).length + ([] : List Keyword).length + (if ([] : List Keyword).isEmpty then 0 else 1) < 30)) = true := by rfl)
    (q3 : (apos.endLine == pos3.line) = true := by rfl) (q4 : starEach [e] X.env = (false, eval e X.env) :: starEach [] X.env := by rfl) : PSv X W g ρ (.Expr (.Call (.Attribute (.Name x pos2) "extend" apos) [e] [] pos3) pos) E := fun M0 σ H D r m => by
  obtain ⟨e1, vs, hp, rs⟩ := r.sl i _ hd
  have hpo : p ∈ owns ρ := mem_owns.mpr ⟨i, ds, hd⟩
  refine toS (ps_expr (pe_bm PySem.F.plainAttrs_list PySem.F.slot_list_extend PySem.F.type_list_extend mt_extendA (pe_var hN hv h1 h2) (pa_cons pe_c pa_nil q4) q1 q2 q3 q4 (by rfl)) hs) ?_
  refine ⟨_, e1, .inl ⟨rfl, vs, SqL.of hp⟩, h M0 σ H _ r fun v d g1 H1 x1 j1 r1 q => ?_⟩
  obtain ⟨es, hse, hz, q⟩ := q
  have hp1 : H1 p = some (.lst vs) := x1.kp p _ hp (r.own p hpo).2
  have rr := r.ext x1 j1
  obtain ⟨b, ws, rfl, rw', hh⟩ := r1.seq (K := X.K) hse
  obtain ⟨a, st⟩ := rr.updOwn hd ((RS.monos x1 rs).append rw')
  have kk := m.nx _ g1 _ _ a ((Stp.of_ext x1).trans st) q
  have hl : vs.length + ws.length ≤ sizeLine := by rw [rs.length, rw'.length]; exact hz
  rcases hh with ⟨hh, _⟩ | ⟨hh, _⟩
  · exact .inl ⟨p, b, vs, ws, rfl, rfl, hp1, hh, hl, kk⟩
  · exact .inr ⟨p, b, vs, ws, rfl, rfl, hp1, hh, hl, kk⟩
/-- own[k] = e -/
theorem s_setix (i : Nat) {x : Str} {p : Addr} {ds : List D} {pos2 pos3 : Pos} (hd : ρ[i]? = some (.own p ds)) (h : PEv X W g ρ e fun d g1 => PEv X W g1 ρ b fun y g2 => ∃ k n, y = .int k ∧ ixN ds.length k = some n ∧ E.nx (ρ.set i (.own p (ds.set n d))) g2) (hN : X.N[i]? = some x := by rfl)
    (hv : Vis X.env.scope x := by first | exact Or.inl rfl | exact Or.inr (Or.inl rfl) | exact Or.inr (Or.inr rfl)) (h1 : (x == ("__debug__" : Str)) = false := by decide) (h2 : (x == ("__classdict__" : Str)) = false := by decide)
    (ha : ∀ v, assign (.Subscript (.Name x pos2) b pos3) X.env v = (do
      let ov ← holding [v] (eval (.Name x pos2) X.env)
      let iv ← holding [v, ov] (eval b X.env)
      standAt pos3
      holding [v, ov, iv] (setItem ov iv v)
      release [v, ov, iv] []) := by intro _; rfl)
    (hs : swapsWithSole [.Subscript (.Name x pos2) b pos3] e pos.line X.env = pure false := by rfl) (hw : swappedStores [.Subscript (.Name x pos2) b pos3] e X.env = pure none := by rfl)
    (hh1 : (assignEach [.Subscript (.Name x pos2) b pos3] X.env).map (·.2) = [assign (.Subscript (.Name x pos2) b pos3) X.env] := by rfl) : PSv X W g ρ (.Assign [.Subscript (.Name x pos2) b pos3] e pos) E := fun M0 σ H D r m => by
  obtain ⟨e1, vs, hp, rs⟩ := r.sl i _ hd
  have hpo : p ∈ owns ρ := mem_owns.mpr ⟨i, ds, hd⟩
  refine toS (ps_asg pe_c (pg_sub (pe_var hN hv h1 h2) pe_c set_list ha) hs hw hh1) (h M0 σ H _ r fun v d g1 H1 x1 j1 r1 q => ?_)
  refine ⟨_, e1, q M0 σ H1 _ (r.ext x1 j1) fun v2 y g2 H2 x2 j2 r2 q => ?_⟩
  obtain ⟨k, n, rfl, hk, q⟩ := q
  have hp2 : H2 p = some (.lst vs) := x2.kp p _ (x1.kp p _ hp (r.own p hpo).2) (r.own p hpo).2
  have rr := (r.ext x1 j1).ext x2 j2
  obtain ⟨a, st⟩ := rr.updOwn hd (Rs.set n (RS.monos x2 (RS.monos x1 rs)) (RS.mono x2 r1))
  exact ⟨p, vs, k, n, rfl, r2, hp2, by rw [rs.length]; exact hk, m.nx _ g2 _ _ a ((Stp.of_ext (x1.trans x2)).trans st) q⟩
/-- the def's own list is a datum from now on -/
theorem ss_freeze (i : Nat) {p : Addr} {ds : List D} (hd : ρ[i]? = some (.own p ds)) (h : PSsv X W g (ρ.set i (.val (.lst ds))) sts E) : PSsv X W g ρ sts E := fun M0 σ H D r m =>
  h M0 σ H D (r.freeze hd) (m.stp Stp.set)

/-- a name that is asked no more -/
theorem ss_forget (i : Nat) (h : PSsv X W g (ρ.set i .no) sts E) : PSsv X W g ρ sts E := fun M0 σ H D r m => by
  by_cases hi : i < σ.length
  · have q := r.no i σ[i]
    have e : σ.set i σ[i] = σ := List.set_getElem_self hi
    rw [e] at q
    exact h M0 σ H D q (m.stp ⟨fun _ _ e _ _ => e, fun _ z => z, fun p hp => .inl ((owns_set_no rfl ρ i).subset hp)⟩)
  · have e : ρ.set i .no = ρ := List.set_eq_of_length_le (by rw [r.len]; omega)
    rw [e] at h
    exact h M0 σ H D r m

/-! ### loops -/
theorem s_for (Iv : Nat → Sl → γ → Prop) (h : PIv X W g ρ tg iter fun ds g1 => Iv 0 ρ g1 ∧
      (∀ i d ρ2 g2, ds[i]? = some d → Iv i ρ2 g2 → PGw X W g2 ρ2 tg d fun ρ3 g3 => PSsv X W g3 ρ3 body { nx := Iv (i + 1), ct := Iv (i + 1), bk := E.nx, rt := E.rt }) ∧ ∀ ρ2 g2, Iv ds.length ρ2 g2 → E.nx ρ2 g2)
    (hp : PassesOwn (model X.prog X.w) X.A X.env X.xe := by exact PassesOwn.never) (hc : X.calm = true := by rfl) (hs : ∀ x, foldedSetIterable iter X.env x = pure x := by intro _; rfl) : PSv X W g ρ (.For tg iter body [] pos) E := fun M0 σ H D r m =>
  toS (ps_for hp hc pi_c pg_c pss_c hs) (h M0 σ H _ r fun J ds g1 H1 x1 j1 ok p => by
    obtain ⟨i0, turn, fin⟩ := p
    have r1 := r.ext x1 j1
    have m1 := m.stp (Stp.of_ext x1)
    refine ⟨fun i n σ' H' => n = ds.length - i ∧ i ≤ ds.length ∧ ∃ ρ' g', Iv i ρ' g' ∧ RS W M0 g' ρ' σ' H' ∧ Stp W ρ ρ' H1 H', ⟨ds.length, by simp, Nat.zero_le _, ρ, g1, i0, r1, Stp.refl⟩, ?_⟩
    rintro i n σ2 H2 ⟨rfl, hi, ρ2, g2, iv, r2, s2⟩
    have ok2 := ok i H2 (fun a o ha n => s2.kp a o ha (fun z => n (.inr (.inl z))) fun z => n (.inr (.inr z))) s2.dm
    by_cases hlt : i < ds.length
    · have hd : ds[i]? = some ds[i] := List.getElem?_eq_getElem hlt
      obtain ⟨go, yl⟩ := ok2.2 _ hd
      refine .inr ⟨go, fun σ' H' => i + 1 ≤ ds.length ∧ ∃ ρ' g', Iv (i + 1) ρ' g' ∧ RS W M0 g' ρ' σ' H' ∧ Stp W ρ ρ' H1 H', fun σ' H' q => ⟨ds.length - (i + 1), by omega, rfl, q⟩, fun x H3 hy => ?_⟩
      obtain ⟨sm3, rx⟩ := yl x H3 hy
      have x3 : Ext W H2 H3 := Ext.of_same sm3
      have r3 := r2.ext x3 (W.same r2.j sm3)
      have rx' := rx (MM W M0 ρ2) r2.dm fun a ha z => by
        rcases z with z | z | z
        · exact .inl z
        · exact .inr (.inl z)
        · rcases s2.ow a z with z | z
          · exact .inr (.inr z)
          · exact absurd z ha
      have s3 : Stp W ρ ρ2 H1 H3 := s2.trans (Stp.of_ext x3)
      refine turn i _ ρ2 g2 hd iv M0 σ2 H3 x _ r3 rx' fun ρ4 g4 σ4 H4 r4 x4 o4 p4 => ?_
      have s4 : Stp W ρ ρ4 H1 H4 := s3.trans ((Stp.of_ext x4).sub o4)
      exact p4 M0 σ4 H4 _ r4 ⟨fun ρ' g' σ' H' r' t q => ⟨hlt, ρ', g', q, r', s4.trans t⟩, fun v d g' ρ' H' t => m1.rt v d g' ρ' H' (s4.trans t), fun ρ' g' σ' H' r' t q => m1.nx ρ' g' σ' H' r' (s4.trans t) q, fun ρ' g' σ' H' r' t q => ⟨hlt, ρ', g', q, r', s4.trans t⟩⟩
    · have e : i = ds.length := by omega
      subst e
      exact .inl ⟨ok2.1 (Nat.le_refl _), m1.nx ρ2 g2 σ2 H2 r2 s2 (fin ρ2 g2 iv)⟩)
theorem s_while (Iv : Nat → Sl → γ → Prop) (m0 : Nat) (h0 : Iv m0 ρ g) (step : ∀ m ρ2 g2, Iv m ρ2 g2 → PTv X W g2 ρ2 c fun k g3 =>
      (k = true → PSsv X W g3 ρ2 body { nx := fun ρ3 g4 => ∃ m', m' < m ∧ Iv m' ρ3 g4, ct := fun ρ3 g4 => ∃ m', m' < m ∧ Iv m' ρ3 g4, bk := E.nx, rt := E.rt }) ∧ (k = false → E.nx ρ2 g3))
    (hp : PassesOwn (model X.prog X.w) X.A X.env X.xe := by exact PassesOwn.never) : PSv X W g ρ (.While c body [] pos) E := fun M0 σ H D r m =>
  toS (ps_while hp pt_c pss_c) (by
    refine ⟨fun n σ' H' => ∃ ρ' g', Iv n ρ' g' ∧ RS W M0 g' ρ' σ' H' ∧ Stp W ρ ρ' H H', ⟨m0, ρ, g, h0, r, Stp.refl⟩, ?_⟩
    rintro n σ2 H2 ⟨ρ2, g2, iv, r2, s2⟩
    refine step n ρ2 g2 iv M0 σ2 H2 _ r2 fun k g3 H3 x3 j3 p => ?_
    have r3 := r2.ext x3 j3
    have s3 : Stp W ρ ρ2 H H3 := s2.trans (Stp.of_ext x3)
    cases k with
    | false => rw [if_neg Bool.false_ne_true]; exact m.nx ρ2 g3 σ2 H3 r3 s3 (p.2 rfl)
    | true =>
      rw [if_pos rfl]
      refine ⟨fun σ' H' => ∃ m', m' < n ∧ ∃ ρ' g', Iv m' ρ' g' ∧ RS W M0 g' ρ' σ' H' ∧ Stp W ρ ρ' H H', fun σ' H' ⟨m', hm, q⟩ => ⟨m', hm, q⟩, ?_⟩
      exact p.1 rfl M0 σ2 H3 _ r3 ⟨fun ρ' g' σ' H' r' t ⟨m', hm, q⟩ => ⟨m', hm, ρ', g', q, r', s3.trans t⟩, fun v d g' ρ' H' t => m.rt v d g' ρ' H' (s3.trans t), fun ρ' g' σ' H' r' t q => m.nx ρ' g' σ' H' r' (s3.trans t) q, fun ρ' g' σ' H' r' t ⟨m', hm, q⟩ => ⟨m', hm, ρ', g', q, r', s3.trans t⟩⟩)

/-! ### methods of texts -/
/-- 'sep'.join(xs) -/
theorem ev_join {φ : D → γ → Prop} {apos cpos : Pos} {o : Expr} (h : PEv X W g ρ o fun d g1 => ∃ z : Str, d = .str z ∧ PAb X W g1 ρ [e] fun ds g2 => ∃ (d2 : D) (ys : List Str), ds = [d2] ∧ Seqd d2 = some (ys.map D.str) ∧ (ys.map (·.length)).sum + ys.length * z.length ≤ 16777216 ∧ φ (.str (Txt.join z ys)) g2)
    (hbase : attributeBase o "join" X.env (eval o X.env) = eval o X.env := by rfl)
    (hfew : ((backTo cpos (starEach [e] X.env)).all (fun x => !x.1) && (backToKw cpos (keywordEach [] X.env)).all (fun x => x.1.isSome) && decide (([e] : List Expr).length + ([] : List Keyword).length + (if ([] : List Keyword).isEmpty then 0 else 1) < 30)) = true := by rfl)
    (hline : (apos.endLine == cpos.line) = true := by rfl) (hs : starEach [e] X.env = (false, eval e X.env) :: starEach [] X.env := by rfl) : PEv X W g ρ (.Call (.Attribute o "join" apos) [e] [] cpos) φ := fun M0 σ H Q r k =>
  toE (pe_bm PySem.F.plainAttrs_str PySem.F.slot_str_join PySem.F.type_str_join mt_join pe_c pa_c hbase hfew hline hs (by rfl)) (h M0 σ H _ r fun v d g1 H1 x1 j1 r1 p => by
    obtain ⟨z, rfl, p⟩ := p
    have e1 : v = .str z := r1
    subst e1
    refine ⟨rfl, p M0 σ H1 _ (r.ext x1 j1) fun vs ds g2 H2 x2 j2 r2 p => ?_⟩
    obtain ⟨d2, ys, rfl, hd, hz, p⟩ := p
    obtain ⟨w, rfl, bw⟩ := r2.one
    obtain ⟨q, ws, rfl, rs, hh⟩ := bw.seq (K := X.K) hd
    rw [rs.strs] at hh
    refine ⟨z, q, ys, rfl, rfl, ?_, hz, k _ (.str _) g2 H2 (x1.trans x2) j2 rfl p⟩
    rcases hh with ⟨hh, _⟩ | ⟨hh, _⟩
    · exact .inl (SqL.of hh)
    · exact .inr (SqT.of hh))
end

/-! ### defs -/
def startS (N : List Str) (ds : List D) : Sl := ds.map Slot.val ++ List.replicate (N.length - ds.length) Slot.no
theorem owns_start (N : List Str) (ds : List D) : owns (startS N ds) = [] := by
  unfold owns startS
  rw [List.filterMap_append]
  have h1 : (ds.map Slot.val).filterMap Slot.ad = [] := by rw [List.filterMap_map]; exact List.filterMap_eq_nil_iff.mpr fun _ _ => rfl
  have h2 : (List.replicate (N.length - ds.length) Slot.no).filterMap Slot.ad = [] := List.filterMap_eq_nil_iff.mpr fun s hs => by rw [List.eq_of_mem_replicate hs]; rfl
  rw [h1, h2]; rfl
theorem rs_start {γ : Type} {W : Wd γ} {M0 : Addr → Prop} {g : γ} {N : List Str} {ds : List D} {vs : List V} {H : Hp} (j : W.J g H) (hM : ∀ a, M0 a → H a ≠ none) (hr : Rs (fun a => M0 a ∨ W.mj a) H ds vs) : RS W M0 g (startS N ds) (L2.start N vs) H := by
  have eo := owns_start N ds
  have hl := hr.length
  refine ⟨j, hM, fun p hp => (by rw [eo] at hp; simp at hp), by rw [eo]; exact List.nodup_nil, ?_, fun i s hs => ?_⟩
  · unfold startS L2.start
    rw [List.length_append, List.length_append, List.length_map, List.length_map, List.length_replicate, List.length_replicate, hl]
  · unfold startS at hs
    by_cases hi : i < ds.length
    · rw [List.getElem?_append_left (by rw [List.length_map]; exact hi), List.getElem?_map] at hs
      cases e : ds[i]? with
      | none => rw [e] at hs; cases hs
      | some d =>
        rw [e] at hs
        cases hs
        obtain ⟨v, hv, rv⟩ := hr.get e
        refine ⟨v, ?_, R.mv (fun _ _ e _ => e) (fun a _ z => ?_) d v rv⟩
        · unfold L2.start
          rw [List.getElem?_append_left (by rw [List.length_map, hl]; exact hi), List.getElem?_map, hv]; rfl
        · rcases z with z | z | z
          · exact .inl z
          · exact .inr z
          · rw [eo] at z; simp at z
    · rw [List.getElem?_append_right (by rw [List.length_map]; omega), List.length_map] at hs
      have := (List.getElem?_eq_some_iff.mp hs).2
      rw [List.getElem_replicate] at this
      subst this
      trivial
section
variable {P : Program} {w : World} {K : PySem.W.Frag} {mg : Str → Option Value} {base : Heap}
abbrev FnP (K : PySem.W.Frag) (x qual : Str) (st : Stmt) (f : Addr) (fd : FuncData) : Prop := FunD K x qual (defArgs st) (defBody st) (defScope st) [] [] f fd
/-- the context of a def's body -/
abbrev cxB (P : Program) (w : World) (K : PySem.W.Frag) (mg : Str → Option Value) (base : Heap) (N : List Str) (qual : Str) (st : Stmt) (f : Addr) (cd : Value) (A : Around) (outer : List Env) (s : Shared) (H : Hp) (E : XK) : Cx :=
  (cxOf CX0 P w K mg base N qual (defScope st) f cd A outer s H E).nox
theorem ok_def {ι : Type} {args : ι → List D} {pre : ι → Prop} {res : ι → D → Prop} {x qual : Str} {st : Stmt} {f : Addr} {fd : FuncData} {N ps : List Str} {k : Nat} (F : FnP K x qual st f fd) (S : FnScope N ps (defScope st)) (hl : ∀ i, (args i).length = ps.length)
    (hb : ∀ i, pre i → ∀ (cdv : Value) (A : Around) (outer : List Env) (s : Shared) (H : Hp) (E : XK), Room k (A.deeper (envOfC qual (defScope st) s.heap.objs.size f cdv)) →
      PSsv (cxB P w K mg base N qual st f cdv A outer s H E) W0 () (startS N (args i)) (defBody st) { nx := fun _ _ => res i .non, rt := fun d _ => res i d }) : FnOk P w K mg base CX0 (k + 1) f fd ps (SpF args pre res) := by
  refine F.ok S (fun vs H Q E h => ?_) (fun cdv A outer s H vs Q E hr h => ?_)
  · obtain ⟨i, M, hr, _⟩ := h
    rw [hr.length, hl i]
  · obtain ⟨i, M, hrs, hM, hp, q⟩ := h
    refine ⟨_, PSs.nox pss_c, ?_⟩
    refine hb i hp cdv A outer s H E hr M _ H _ (rs_start (W := W0) trivial hM (Rs.mv (fun _ _ e _ => e) (fun a _ z => z.elim id fun z => z.elim) _ _ hrs)) ⟨fun ρ' g' σ' H' r' t z => ?_, fun v d g' ρ' H' t j rv z => ?_, fun _ _ _ _ _ _ z => z, fun _ _ _ _ _ _ z => z⟩
    · have sm : Same H H' := fun a o e => t.kp a o e (fun z => z) (by rw [owns_start]; simp)
      exact q .non .non H' sm rfl z
    · have sm : Same H H' := fun a o e => t.kp a o e (fun z => z) (by rw [owns_start]; simp)
      exact q v d H' sm (R.mv (fun _ _ e _ => e) (fun a _ z => .inl z) d v rv) z
theorem ok_defW {α γ ι : Type} {V : α → Wd γ} {args : α → ι → List D} {pre : ι → γ → Prop} {res : ι → γ → D → γ → Prop} {x qual : Str} {st : Stmt} {f : Addr} {fd : FuncData} {N ps : List Str} {k : Nat} (F : FnP K x qual st f fd) (S : FnScope N ps (defScope st)) (hl : ∀ a i, (args a i).length = ps.length)
    (hb : ∀ a i g, pre i g → ∀ (cdv : Value) (A : Around) (outer : List Env) (s : Shared) (H : Hp) (E : XK), Room k (A.deeper (envOfC qual (defScope st) s.heap.objs.size f cdv)) →
      PSsv (cxB P w K mg base N qual st f cdv A outer s H E) (V a) g (startS N (args a i)) (defBody st) { nx := fun _ g' => res i g .non g', rt := fun d g' => res i g d g' }) : FnOk P w K mg base CX0 (k + 1) f fd ps (SpW V args pre res) := by
  refine F.ok S (fun vs H Q E h => ?_) (fun cdv A outer s H vs Q E hr h => ?_)
  · obtain ⟨a, i, g, M, hr, _⟩ := h
    rw [hr.length, hl a i]
  · obtain ⟨a, i, g, M, hrs, hM, hmj, hp, j, q⟩ := h
    refine ⟨_, PSs.nox pss_c, ?_⟩
    refine hb a i g hp cdv A outer s H E hr M _ H _ (rs_start j hM (Rs.mv (fun _ _ e _ => e) (fun b _ z => z.elim id fun z => hmj b z) _ _ hrs)) ⟨fun ρ' g' σ' H' r' t z => ?_, fun v d g' ρ' H' t j rv z => ?_, fun _ _ _ _ _ _ z => z, fun _ _ _ _ _ _ z => z⟩
    · exact q .non .non g' H' ⟨fun b o e n => t.kp b o e n (by rw [owns_start]; simp), t.dm⟩ r'.j rfl z
    · exact q v d g' H' ⟨fun b o e n => t.kp b o e n (by rw [owns_start]; simp), t.dm⟩ j (R.mv (fun _ _ e _ => e) (fun b _ z => .inl z) d v rv) z
/-- how the arguments of such a def bind -/
theorem gd_of {x qual : Str} {st : Stmt} {f : Addr} {fd : FuncData} {ps : List Str} {k : Nat} {sp : Sp} (F : FnP K x qual st f fd) (h : FnOk P w K mg base CX0 k f fd ps sp) (hm : mg x = some (.ref f))
    (hb : ∀ (kV doc pm : Value) (an : Option Addr) (cdv ct : Value) (us : List Value), us.length = ps.length → bindArgs (PySem.W.fnOf x qual (defArgs st) (defBody st) (defScope st) .none kV doc pm an cdv ct) ⟨us, []⟩ = pure (ps.zip us)) : Gd P w K mg base x k sp :=
  ⟨f, fd, ps, h, hm, F.kp, F.bindsN hb⟩
end
end Co
/-! PL9: comprehensions whose elements are told; the script. -/
namespace Co
open PySem PySem.Spec PyProof.Rows L2
section
variable {γ : Type} {X : Cx} {W : Wd γ} {g : γ} {ρ : Sl} {e a b tg c iter elt : Expr} {es : List Expr} {pos : Pos} {js : List Nat} {scope : Scope} {ifs : List Expr} {own : List (Str × Nat)}
theorem lcD {α : Type} (xs : List α) (td val : α → D) (keep : α → Bool) {φ : List D → γ → Prop} (h : PIv X W g ρ tg iter fun ds g1 => g1 = g ∧ ds = xs.map td ∧ ds.length ≤ sizeLine)
    (hb : ∀ x ∈ xs, InBlk X scope fun Y => PGv Y W g (wipeS ρ (own.map (·.2))) tg (td x) (own.map (·.2)) fun ρ3 g3 => g3 = g ∧ owns ρ3 = owns ρ ∧ InBlk X scope fun Y => PTsv Y W g ρ3 ifs fun b g4 => g4 = g ∧ b = keep x ∧ (keep x = true → InBlk X scope fun Y => PEv Y W g ρ3 elt fun r g5 => r = val x ∧ g5 = g))
    (hd : φ ((xs.filter keep).map val) g) : LcAsk X W g ρ tg iter elt ifs scope own φ (fun i acc g' => acc = ((xs.take i).filter keep).map val ∧ g' = g) := fun M0 σ H Q r k =>
  h M0 σ H Q r fun J ds g1 H1 x1 j1 ok p => by
    obtain ⟨rfl, rfl, hz⟩ := p
    refine k J _ _ H1 x1 j1 ok ⟨hz, ⟨by simp, rfl⟩, ?_, ?_⟩
    · rintro i d acc g2 hi ⟨rfl, rfl⟩
      rw [List.getElem?_map] at hi
      cases ei : xs[i]? with
      | none => rw [ei] at hi; cases hi
      | some x =>
        rw [ei] at hi
        cases hi
        have hx : x ∈ xs := List.mem_of_getElem? ei
        have tk : xs.take (i + 1) = xs.take i ++ [x] := by rw [List.take_add_one, ei]; rfl
        intro s H C cl fp M1 σ1 H2 v Q2 r2 rv k2
        refine hb x hx s H C cl fp M1 σ1 H2 v Q2 r2 rv fun ρ' g' σ' H' rr xx oo ww p => k2 ρ' g' σ' H' rr xx oo ww ?_
        obtain ⟨rfl, ho, p⟩ := p
        refine ⟨ho, fun s H C cl fp M2 σ2 H3 Q3 r3 k3 => p s H C cl fp M2 σ2 H3 Q3 r3 fun b g4 H4 x4 j4 q => k3 b g4 H4 x4 j4 ?_⟩
        obtain ⟨rfl, rfl, q⟩ := q
        refine ⟨fun hk s H C cl fp M3 σ3 H5 Q5 r5 k5 => q hk s H C cl fp M3 σ3 H5 Q5 r5 fun v d g6 H6 x6 j6 r6 z => k5 v d g6 H6 x6 j6 r6 ?_, fun hk => ?_⟩
        · obtain ⟨rfl, rfl⟩ := z
          refine ⟨?_, rfl⟩
          rw [tk, List.filter_append, List.map_append]
          congr 1
          rw [List.filter_cons_of_pos hk]; rfl
        · refine ⟨?_, rfl⟩
          rw [tk, List.filter_append, List.map_append, List.filter_cons_of_neg (by rw [hk]; exact Bool.false_ne_true)]
          simp
    · rintro acc g2 ⟨rfl, rfl⟩
      rw [List.length_map, List.take_length]
      exact hd
end
/-- the script -/
def ScD (K : PySem.W.Frag) (d : D) (ns : List Int) : Prop := d = .frz (ns.map D.int) ∨ ∃ a, d = .ref a ∧ ∀ H, SqL K H a (ns.map V.int)
theorem ScD.sq {K : PySem.W.Frag} {M N : Addr → Prop} {H : Hp} {d : D} {ns : List Int} {v : V} (h : ScD K d ns) (b : RB M N H d v) : ∃ a, v = .ref a ∧ SqL K H a (ns.map V.int) := by
  rcases h with rfl | ⟨a, rfl, hs⟩
  · obtain ⟨p, o, vs, rfl, hp, rs⟩ := b.frz
    rw [rs.ints] at hp
    exact ⟨p, rfl, .inl (.inr ⟨o, hp⟩)⟩
  · exact ⟨a, b.ref, hs H⟩
section
variable {γ : Type} {X : Cx} {W : Wd γ} {g : γ} {ρ : Sl} {e a b : Expr} {pos : Pos} {φ : D → γ → Prop}
theorem cd_lenSc {d : D} {ns : List Int} {ψ : D → Prop} (hs : ScD X.K d ns) (h : ψ (.int ns.length)) : CallD X (.builtin "len") [d] ψ :=
  CallD.of call_len_seq fun M N H xs Q bx dm k => by
    obtain ⟨v, rfl, b⟩ := bx.one
    obtain ⟨q, rfl, hq⟩ := hs.sq b
    exact ⟨q, _, rfl, .inl hq, by rw [List.length_map]; exact k _ (.int ns.length) H (Same.refl H) rfl h⟩
theorem ev_ixSc (h : PEb X W g ρ a fun d g1 => ∃ ns, ScD X.K d ns ∧ PEv X W g1 ρ b fun y g2 => ∃ i z, y = .int i ∧ atI ns i = some z ∧ φ (.int z) g2) (hs : PlainIx b := by intro _ _; rfl) : PEv X W g ρ (.Subscript a b pos) φ := fun M0 σ H Q r k =>
  toE (pe_ix ix_list pe_c pe_c hs) (h M0 σ H _ r fun v d g1 H1 x1 j1 r1 p => by
    obtain ⟨ns, hd, p⟩ := p
    refine p M0 σ H1 _ (r.ext x1 j1) fun v2 y g2 H2 x2 j2 r2 p => ?_
    obtain ⟨i, z, rfl, ha, p⟩ := p
    obtain ⟨q, rfl, hq⟩ := hd.sq (RS.monoB x2 r1)
    refine ⟨q, _, i, .int z, rfl, r2, hq, ?_, k _ (.int z) g2 H2 (x1.trans x2) j2 rfl p⟩
    unfold atI at ha ⊢
    rw [List.length_map]
    cases e : ixN ns.length i with
    | none => rw [e] at ha; cases ha
    | some n =>
      rw [e] at ha
      show (ns.map V.int)[n]? = _
      rw [List.getElem?_map, show ns[n]? = some z from ha]; rfl)
end
end Co
/-! PL10: names found by themselves. -/
namespace Co
open PySem PySem.Spec PyProof.Rows L2
section
variable {γ : Type} {X : Cx} {W : Wd γ} {g : γ} {ρ : Sl} {φ : D → γ → Prop} {pos : Pos}
/-- the place of a name -/
def ixN? (N : List Str) (x : Str) : Option Nat := N.findIdx? fun y => decide (y = x)
theorem ixN?_get : ∀ {N : List Str} {x : Str} {i : Nat}, ixN? N x = some i → N[i]? = some x := fun {N x i} h => by
  unfold ixN? at h
  obtain ⟨h1, h2, _⟩ := List.findIdx?_eq_some_iff_getElem.mp h
  rw [List.getElem?_eq_getElem h1, of_decide_eq_true h2]
theorem ev_nm {x : Str} {i : Nat} {d : D} (hi : ixN? X.N x = some i := by rfl) (hd : ρ[i]? = some (.val d) := by rfl)
    (hv : Vis X.env.scope x := by first | exact Or.inl rfl | exact Or.inr (Or.inl rfl) | exact Or.inr (Or.inr rfl)) (h1 : (x == ("__debug__" : Str)) = false := by decide)
    (h2 : (x == ("__classdict__" : Str)) = false := by decide) (h : φ d g) : PEv X W g ρ (.Name x pos) φ := ev_var i (ixN?_get hi) hd hv h1 h2 h
theorem eb_nm {x : Str} {i : Nat} {p : Addr} {ds : List D} (hi : ixN? X.N x = some i := by rfl) (hd : ρ[i]? = some (.own p ds) := by rfl)
    (hv : Vis X.env.scope x := by first | exact Or.inl rfl | exact Or.inr (Or.inl rfl) | exact Or.inr (Or.inr rfl)) (h1 : (x == ("__debug__" : Str)) = false := by decide)
    (h2 : (x == ("__classdict__" : Str)) = false := by decide) (h : φ (.lst ds) g) : PEb X W g ρ (.Name x pos) φ := eb_own i (ixN?_get hi) hd hv h1 h2 h
theorem gv_nm {x : Str} {i : Nat} {d : D} {js : List Nat} {φ : Sl → γ → Prop} (h : φ (ρ.set i (.val d)) g) (hi : ixN? X.N x = some i := by rfl) (hU : i ∈ js := by decide) (hN : X.N.Nodup := by assumption) (hx : Loc X.env.scope x := by first | exact Or.inl rfl | exact Or.inr rfl)
    (hf : X.fn x = true ∨ X.env.scope.names.lookup x = some .local := by first | exact .inl rfl | exact .inr rfl) : PGv X W g ρ (.Name x pos) d js φ := gv_name i h hU hN (ixN?_get hi) hx hf
theorem gw_nm {x : Str} {i : Nat} {d : D} {φ : Sl → γ → Prop} (h : φ (ρ.set i (.val d)) g) (hi : ixN? X.N x = some i := by rfl) (hN : X.N.Nodup := by assumption) (hx : Loc X.env.scope x := by first | exact Or.inl rfl | exact Or.inr rfl)
    (hf : X.fn x = true ∨ X.env.scope.names.lookup x = some .local := by first | exact .inl rfl | exact .inr rfl) : PGw X W g ρ (.Name x pos) d φ := gw_name i h hN (ixN?_get hi) hx hf
theorem filter_tt {α : Type} (xs : List α) : xs.filter (fun _ => true) = xs := List.filter_eq_self.mpr fun _ _ => rfl
variable {tg iter elt e a b : Expr} {scope : Scope} {own : List (Str × Nat)}
/-- a comprehension without a test -/
theorem lcM {α : Type} (xs : List α) (td val : α → D) {φ : List D → γ → Prop} (h : PIv X W g ρ tg iter fun ds g1 => g1 = g ∧ ds = xs.map td ∧ ds.length ≤ sizeLine)
    (hb : ∀ x ∈ xs, InBlk X scope fun Y => PGv Y W g (wipeS ρ (own.map (·.2))) tg (td x) (own.map (·.2)) fun ρ3 g3 => g3 = g ∧ owns ρ3 = owns ρ ∧ InBlk X scope fun Y => PEv Y W g ρ3 elt fun r g5 => r = val x ∧ g5 = g)
    (hd : φ (xs.map val) g) : LcAsk X W g ρ tg iter elt [] scope own φ (fun i acc g' => acc = ((xs.take i).filter fun _ => true).map val ∧ g' = g) :=
  lcD xs td val (fun _ => true) h (fun x hx s H C cl fp M1 σ1 H2 v Q2 r2 rv k2 => hb x hx s H C cl fp M1 σ1 H2 v Q2 r2 rv fun ρ' g' σ' H' rr xx oo ww p => k2 ρ' g' σ' H' rr xx oo ww
    ⟨p.1, p.2.1, fun s H C cl fp => tsv_nil ⟨rfl, rfl, fun _ => p.2.2⟩⟩) (by rw [filter_tt]; exact hd)
/-- the type of a datum -/
def tyD : D → String
  | .non => "NoneType"
  | .bl _ => "bool"
  | .int _ => "int"
  | .str _ => "str"
  | .ref _ => "object"
  | .tup _ => "tuple"
  | .lst _ => "list"
  | .frz _ => "list"
theorem RB.ty {K : PySem.W.Frag} {M N : Addr → Prop} {H : Hp} {d : D} {v : V} (h : RB M N H d v) (hr : ∀ a, d ≠ .ref a) : TyX K H v (.type (tyD d)) := by
  cases d with
  | non => rw [h.non]; exact .base .non
  | bl b => rw [h.bl]; exact .base (.bl b)
  | int b => rw [h.int]; exact .base (.int b)
  | str b => rw [h.str]; exact .base (.str b)
  | ref b => exact absurd rfl (hr b)
  | tup ds => obtain ⟨p, vs, rfl, hp, _⟩ := h.tup; exact .base (.tup hp)
  | lst ds => obtain ⟨p, vs, rfl, hp, _⟩ := h.lst; exact .base (.lst hp)
  | frz ds => obtain ⟨p, o, vs, rfl, hp, _⟩ := h.frz; exact .base (.frz hp)
def D.isInt : D → Bool
  | .int _ => true
  | .bl _ => true
  | _ => false
def D.isBool : D → Bool
  | .bl _ => true
  | _ => false
def D.isStr : D → Bool
  | .str _ => true
  | _ => false
def D.isTup : D → Bool
  | .tup _ => true
  | _ => false
def D.noRef : D → Bool
  | .ref _ => false
  | _ => true
theorem kit_int {d : D} (h : d.noRef = true) : kitB (tyD d) "int" = some d.isInt := by
  cases d <;> first | (cases h; done) | kernel_rfl
theorem kit_bool {d : D} (h : d.noRef = true) : kitB (tyD d) "bool" = some d.isBool := by
  cases d <;> first | (cases h; done) | kernel_rfl
theorem kit_str {d : D} (h : d.noRef = true) : kitB (tyD d) "str" = some d.isStr := by
  cases d <;> first | (cases h; done) | kernel_rfl
theorem kit_tup {d : D} (h : d.noRef = true) : kitB (tyD d) "tuple" = some d.isTup := by
  cases d <;> first | (cases h; done) | kernel_rfl
/-- isinstance(e, T), T a built-in class -/
theorem ev_isi {T : String} {ty : D → Bool} {p p2 : Pos} (hk : ∀ d : D, d.noRef = true → kitB (tyD d) T = some (ty d)) (hm : X.mg "isinstance" = none) (hmT : X.mg (Str.ofString T) = none) (h : PEb X W g ρ e fun d g1 => d.noRef = true ∧ φ (.bl (ty d)) g1) (hv : bootBuiltins (Str.ofString T) = some (.type T) := by decide +kernel) (hg : Gl X "isinstance" := by rfl) (hgT : Gl X (Str.ofString T) := by rfl)
    (hnT : Str.ofString T ≠ "__name__" := by decide) (hdT : (Str.ofString T == ("__debug__" : Str)) = false := by decide) (hs : starEach [e, .Name (Str.ofString T) p2] X.env = (false, eval e X.env) :: starEach [.Name (Str.ofString T) p2] X.env := by rfl) (hpl : (backTo pos (starEach [.Name (Str.ofString T) p2] X.env)).any (·.1) = false := by rfl) :
    PEv X W g ρ (.Call (.Name "isinstance" p) [e, .Name (Str.ofString T) p2] [] pos) φ := fun M0 σ H Q r k =>
  toE (pe_callB call_isi hg hm (by decide +kernel) (pa_cons pe_c (pa_cons (pe_bltn (v := .ty T) hgT hmT hv rfl hnT hdT) pa_nil (by rfl)) hs) (by decide) (by decide) hs hpl) (h M0 σ H _ r fun v d g1 H1 x1 j1 r1 p => by
    obtain ⟨nr, p⟩ := p
    exact ⟨v, .ty T, _, _, ty d, rfl, .ty T, r1.ty (fun a z => by rw [z] at nr; cases nr), kit_ty (hk d nr), k _ (.bl (ty d)) g1 H1 x1 j1 rfl p⟩)
/-- sorted(xs), xs pairs of ints -/
def leP (p q : Int × Int) : Prop := p.1 < q.1 ∨ (p.1 = q.1 ∧ p.2 ≤ q.2)
instance (p q : Int × Int) : Decidable (leP p q) := inferInstanceAs (Decidable (_ ∨ _))
def sortP (xs : List (Int × Int)) : List (Int × Int) := xs.mergeSort fun p q => decide (leP p q)
theorem sortP_perm (xs : List (Int × Int)) : (sortP xs).Perm xs := List.mergeSort_perm xs _
theorem sortP_sorted (xs : List (Int × Int)) : (sortP xs).Pairwise leP := by
  have h := List.pairwise_mergeSort (le := fun p q => decide (leP p q)) (fun a b c h1 h2 => by
    have h1 := of_decide_eq_true h1
    have h2 := of_decide_eq_true h2
    refine decide_eq_true ?_
    unfold leP at *; omega) (fun a b => by
    by_cases h : leP a b
    · simp [h]
    · have : leP b a := by unfold leP at *; omega
      simp [this]) xs
  exact h.imp fun h => of_decide_eq_true h
theorem sortP_uniq {xs ys : List (Int × Int)} (h : ys.Perm xs) (hs : ys.Pairwise leP) : ys = sortP xs :=
  List.Perm.eq_of_pairwise (fun a b _ _ h1 h2 => by
    obtain ⟨a1, a2⟩ := a
    obtain ⟨b1, b2⟩ := b
    unfold leP at h1 h2
    simp only at h1 h2
    ext <;> simp only <;> omega) hs (sortP_sorted xs) (h.trans (sortP_perm xs).symm)
end
def pD (p : Int × Int) : D := .tup [.int p.1, .int p.2]
section
variable {X : Cx}
theorem pD_rs {M : Addr → Prop} {H : Hp} : ∀ {xs : List (Int × Int)} {vs : List V}, Rs M H (xs.map pD) vs → ∃ k : V → Int × Int, (∀ v ∈ vs, ∃ t, v = V.ref t ∧ H t = some (.tup [.int (k v).1, .int (k v).2])) ∧ vs.map k = xs ∧ ∀ v ∈ vs, R M H (pD (k v)) v := fun {xs vs} h => by
  classical
  have one : ∀ v ∈ vs, ∃ p : Int × Int, R M H (pD p) v := fun v hv => by
    obtain ⟨d, hd, q⟩ := h.mem hv
    obtain ⟨p, _, rfl⟩ := List.mem_map.mp hd
    exact ⟨p, q⟩
  let k : V → Int × Int := fun v => if hv : v ∈ vs then (one v hv).choose else (0, 0)
  have hk : ∀ v ∈ vs, R M H (pD (k v)) v := fun v hv => by
    show R M H (pD (if hv : v ∈ vs then (one v hv).choose else (0, 0))) v
    rw [dif_pos hv]
    exact (one v hv).choose_spec
  have shape : ∀ (p : Int × Int) (v : V), R M H (pD p) v → ∃ t, v = V.ref t ∧ H t = some (.tup [.int p.1, .int p.2]) := fun p v q => by
    obtain ⟨t, ws, rfl, _, ht, a, _, rfl, ha, b, _, rfl, hb, rfl⟩ := q
    cases ha; cases hb
    exact ⟨t, rfl, ht⟩
  refine ⟨k, fun v hv => shape _ v (hk v hv), ?_, hk⟩
  apply List.ext_getElem?
  intro i
  rw [List.getElem?_map]
  cases e : vs[i]? with
  | none =>
    have : xs.length ≤ i := by
      have hl := h.length
      rw [List.length_map] at hl
      rw [← hl]; exact List.getElem?_eq_none_iff.mp e
    rw [List.getElem?_eq_none_iff.mpr this]; rfl
  | some v =>
    obtain ⟨d, hd, q⟩ := h.get' e
    rw [List.getElem?_map] at hd
    cases ex : xs[i]? with
    | none => rw [ex] at hd; cases hd
    | some p =>
      rw [ex] at hd
      cases hd
      obtain ⟨t, rfl, ht⟩ := shape p v q
      obtain ⟨t', e', ht'⟩ := shape _ _ (hk _ (List.mem_of_getElem? e))
      cases e'
      rw [ht] at ht'
      simp only [Option.some.injEq, HO.tup.injEq, List.cons.injEq, V.int.injEq, and_true] at ht'
      show some (k (V.ref t)) = some p
      congr 1
      ext
      · exact ht'.1.symm
      · exact ht'.2.symm
theorem rs_of_all {M : Addr → Prop} {H : Hp} {f : V → D} : ∀ {vs : List V}, (∀ v ∈ vs, R M H (f v) v) → Rs M H (vs.map f) vs
  | [], _ => rfl
  | v :: vs, h => ⟨v, vs, rfl, h v List.mem_cons_self, rs_of_all fun w hw => h w (List.mem_cons_of_mem _ hw)⟩
theorem cf_sortP {xs : List (Int × Int)} {ψ : List D → Prop} {d : D} (hd : Seqd d = some (xs.map pD)) (hl : d = .lst (xs.map pD)) (h : ψ ((sortP xs).map pD)) : CallF X (.builtin "sorted") [d] ψ :=
  CallF.of cr_sortedPO fun M N H ws Q bx dm kk => by
    subst hl
    obtain ⟨v, rfl, b⟩ := bx.one
    obtain ⟨q, vs, rfl, hq, rs⟩ := b.lst
    obtain ⟨k, h1, h2, h3⟩ := pD_rs rs
    refine ⟨q, vs, k, rfl, SqL.of hq, h1, fun ys p hs hb hp => ?_⟩
    have hperm : (ys.map k).Perm xs := by rw [← h2]; exact hb.perm.map k
    have hsort : (ys.map k).Pairwise leP := List.pairwise_map.mpr (hs.imp fun {a b} hab => by
      have := SrtO.lexB_no.mp hab
      unfold leP; omega)
    have e := sortP_uniq hperm hsort
    refine kk p ys _ hp ?_ h
    rw [← e, List.map_map]
    exact rs_of_all fun v hv => h3 v (hb.perm.mem_iff.mp hv)
end
end Co
/-! PL11: data that == compares; their equality. -/
namespace Co
open PySem PySem.Spec PyProof.Rows L2
mutual
def D.dep : D → Nat
  | .tup ds => D.deps ds + 1
  | .lst ds => D.deps ds + 1
  | .frz ds => D.deps ds + 1
  | _ => 0
def D.deps : List D → Nat
  | [] => 0
  | d :: ds => max d.dep (D.deps ds)
end
mutual
theorem D.dep_py : ∀ d : D, d.py.depth ≤ d.dep + 1
  | .non => by simp [D.py, PyData.depth]
  | .bl _ => by simp [D.py, PyData.depth]
  | .int _ => by simp [D.py, PyData.depth]
  | .str _ => by simp [D.py, PyData.depth]
  | .ref _ => by simp [D.py, PyData.depth]
  | .tup ds => by have := D.deps_py ds; simp only [D.py, PyData.depth, D.dep]; omega
  | .lst ds => by have := D.deps_py ds; simp only [D.py, PyData.depth, D.dep]; omega
  | .frz ds => by have := D.deps_py ds; simp only [D.py, PyData.depth, D.dep]; omega
theorem D.deps_py : ∀ ds : List D, PyData.depthAll (D.pys ds) ≤ D.deps ds + 1
  | [] => by simp [D.pys, PyData.depthAll]
  | d :: ds => by
    have h1 := D.dep_py d
    have h2 := D.deps_py ds
    simp only [D.pys, PyData.depthAll, D.deps]; omega
end
/-- what == takes; n: nested so deep -/
structure Fit (n : Nat) (d : D) : Prop where
  ok : d.ok = true
  dp : d.dep ≤ n
structure Fits (n : Nat) (ds : List D) : Prop where
  ok : D.oks ds = true
  dp : D.deps ds ≤ n
theorem Fits.nil {n : Nat} : Fits n [] := ⟨rfl, Nat.zero_le _⟩
theorem Fits.cons {n : Nat} {d : D} {ds : List D} (h : Fit n d) (q : Fits n ds) : Fits n (d :: ds) := ⟨by show (d.ok && D.oks ds) = true; rw [h.ok, q.ok]; rfl, Nat.max_le.mpr ⟨h.dp, q.dp⟩⟩
theorem Fits.of {n : Nat} : ∀ {ds : List D}, (∀ d ∈ ds, Fit n d) → Fits n ds
  | [], _ => Fits.nil
  | d :: ds, h => Fits.cons (h d List.mem_cons_self) (Fits.of fun e he => h e (List.mem_cons_of_mem _ he))
theorem Fit.tup {n : Nat} {ds : List D} (h : Fits n ds) : Fit (n + 1) (.tup ds) := ⟨h.ok, Nat.succ_le_succ h.dp⟩
theorem Fit.lst {n : Nat} {ds : List D} (h : Fits n ds) : Fit (n + 1) (.lst ds) := ⟨h.ok, Nat.succ_le_succ h.dp⟩
theorem Fit.int {n : Nat} {i : Int} : Fit n (.int i) := ⟨rfl, Nat.zero_le _⟩
theorem Fit.bl {n : Nat} {i : Bool} : Fit n (.bl i) := ⟨rfl, Nat.zero_le _⟩
theorem Fit.non {n : Nat} : Fit n .non := ⟨rfl, Nat.zero_le _⟩
theorem Fit.str {n : Nat} {x : Str} (h : PyData.canLay0 (.str x) = true) : Fit n (.str x) := ⟨h, Nat.zero_le _⟩
theorem Fit.pair {n : Nat} {p : Int × Int} (h : 1 ≤ n) : Fit n (pD p) := ⟨rfl, Nat.le_trans (by show max 0 (max 0 0) + 1 ≤ 1; decide) h⟩
theorem Fit.setT {n : Nat} {s : List (Int × Int)} (h : 2 ≤ n) : Fit n (.tup (s.map Co.pD)) := by
  obtain ⟨m, rfl⟩ := Nat.exists_eq_add_of_le' h
  exact Fit.tup (Fits.of fun d hd => by
    obtain ⟨p, _, rfl⟩ := List.mem_map.mp hd
    exact Fit.pair (by omega))
theorem Fit.setL {n : Nat} {s : List (Int × Int)} (h : 2 ≤ n) : Fit n (.lst (s.map Co.pD)) := by
  obtain ⟨m, rfl⟩ := Nat.exists_eq_add_of_le' h
  exact Fit.lst (Fits.of fun d hd => by
    obtain ⟨p, _, rfl⟩ := List.mem_map.mp hd
    exact Fit.pair (by omega))
/-! no truth value within -/
mutual
def D.nb : D → Bool
  | .bl _ => false
  | .ref _ => false
  | .frz _ => false
  | .tup ds => D.nbs ds
  | .lst ds => D.nbs ds
  | _ => true
def D.nbs : List D → Bool
  | [] => true
  | d :: ds => d.nb && D.nbs ds
end
mutual
theorem D.eqv_iff : ∀ d e : D, d.nb = true → e.nb = true → (PyData.eqv d.py e.py = true ↔ d = e)
  | .non, e, _, h => by cases e <;> first | cases h; done | simp [D.py, PyData.eqv]
  | .bl _, _, h, _ => by cases h
  | .ref _, _, h, _ => by cases h
  | .frz _, _, h, _ => by cases h
  | .int i, e, _, h => by cases e <;> first | cases h; done | simp [D.py, PyData.eqv]
  | .str i, e, _, h => by cases e <;> first | cases h; done | simp [D.py, PyData.eqv]
  | .tup ds, e, h1, h => by
    cases e with
    | tup es => simp only [D.py, PyData.eqv, D.tup.injEq]; exact D.eqvs_iff ds es h1 h
    | bl _ => cases h
    | ref _ => cases h
    | frz _ => cases h
    | _ => simp [D.py, PyData.eqv]
  | .lst ds, e, h1, h => by
    cases e with
    | lst es => simp only [D.py, PyData.eqv, D.lst.injEq]; exact D.eqvs_iff ds es h1 h
    | bl _ => cases h
    | ref _ => cases h
    | frz _ => cases h
    | _ => simp [D.py, PyData.eqv]
theorem D.eqvs_iff : ∀ ds es : List D, D.nbs ds = true → D.nbs es = true → (PyData.eqvAll (D.pys ds) (D.pys es) = true ↔ ds = es)
  | [], [], _, _ => by simp [D.pys, PyData.eqvAll]
  | [], _ :: _, _, _ => by simp [D.pys, PyData.eqvAll]
  | _ :: _, [], _, _ => by simp [D.pys, PyData.eqvAll]
  | d :: ds, e :: es, h1, h2 => by
    have h1 := Bool.and_eq_true_iff.mp (show (d.nb && D.nbs ds) = true from h1)
    have h2 := Bool.and_eq_true_iff.mp (show (e.nb && D.nbs es) = true from h2)
    simp only [D.pys, PyData.eqvAll, Bool.and_eq_true, List.cons.injEq]
    rw [D.eqv_iff d e h1.1 h2.1, D.eqvs_iff ds es h1.2 h2.2]
end
theorem nbs_of : ∀ {ds : List D}, (∀ d ∈ ds, d.nb = true) → D.nbs ds = true
  | [], _ => rfl
  | d :: ds, h => Bool.and_eq_true_iff.mpr ⟨h d List.mem_cons_self, nbs_of fun e he => h e (List.mem_cons_of_mem _ he)⟩
theorem nb_set (s : List (Int × Int)) : D.nbs (s.map pD) = true := nbs_of fun d hd => by
  obtain ⟨p, _, rfl⟩ := List.mem_map.mp hd
  rfl
section
variable {X : Cx} {ψ : D → Prop}
theorem od_eqF {n : Nat} {x y : D} (hu : X.A.units + 64 < cLine) (fx : Fit n x) (fy : Fit n y) (hn : n ≤ 60) (h : ψ (.bl (x.eqv y))) : OpD X (compareOp .Eq) x y ψ :=
  od_eq hu fx.ok fy.ok (Nat.le_trans x.dep_py (by have := fx.dp; omega)) (Nat.le_trans y.dep_py (by have := fy.dp; omega)) h
theorem od_neF {n : Nat} {x y : D} (hu : X.A.units + 64 < cLine) (fx : Fit n x) (fy : Fit n y) (hn : n ≤ 60) (h : ψ (.bl (!x.eqv y))) : OpD X (compareOp .NotEq) x y ψ :=
  od_ne hu fx.ok fy.ok (Nat.le_trans x.dep_py (by have := fx.dp; omega)) (Nat.le_trans y.dep_py (by have := fy.dp; omega)) h
/-- == of data without truth values: are they the same -/
theorem od_eqG {n : Nat} {x y : D} {p : Prop} [Decidable p] (hu : X.A.units + 64 < cLine) (fx : Fit n x) (fy : Fit n y) (nx : x.nb = true) (ny : y.nb = true) (hp : x = y ↔ p) (hn : n ≤ 60) (h : ψ (.bl (decide p))) : OpD X (compareOp .Eq) x y ψ :=
  od_eqF hu fx fy hn (by
    have e : x.eqv y = decide p := by
      rw [Bool.eq_iff_iff, decide_eq_true_iff]
      exact (D.eqv_iff x y nx ny).trans hp
    rw [e]; exact h)
theorem od_neG {n : Nat} {x y : D} {p : Prop} [Decidable p] (hu : X.A.units + 64 < cLine) (fx : Fit n x) (fy : Fit n y) (nx : x.nb = true) (ny : y.nb = true) (hp : x = y ↔ p) (hn : n ≤ 60) (h : ψ (.bl (!decide p))) : OpD X (compareOp .NotEq) x y ψ :=
  od_neF hu fx fy hn (by
    have e : x.eqv y = decide p := by
      rw [Bool.eq_iff_iff, decide_eq_true_iff]
      exact (D.eqv_iff x y nx ny).trans hp
    rw [e]; exact h)
end
theorem pD_inj {p q : Int × Int} (h : pD p = pD q) : p = q := by
  obtain ⟨a, b⟩ := p
  obtain ⟨c, d⟩ := q
  simp only [pD, D.tup.injEq, List.cons.injEq, D.int.injEq, and_true] at h
  rw [h.1, h.2]
theorem pDs_inj : ∀ {s t : List (Int × Int)}, s.map pD = t.map pD → s = t
  | [], [], _ => rfl
  | [], _ :: _, h => by simp at h
  | _ :: _, [], h => by simp at h
  | p :: s, q :: t, h => by
    simp only [List.map_cons, List.cons.injEq] at h
    rw [pD_inj h.1, pDs_inj h.2]
end Co
namespace Co
open PySem PySem.Spec PyProof.Rows L2
theorem sz {n : Nat} (h : n ≤ 1000) : n ≤ sizeLine := Nat.le_of_lt (small1000 h)
end Co
/-! PL12: t[::k]; lists that a def hands out; a list that becomes an object of its own. -/
namespace HT
open PySem PySem.Spec PyProof.Rows L2
/-- the items of t[::k] -/
def stepV {α : Type} (xs : List α) (k : Int) : List α := (List.range (Builtin.Slice.slicePlaces 0 (xs.length : Int) k)).filterMap fun (m : Nat) => xs[((0 : Int) + (m : Int) * k).toNat]?
theorem stepV_one {α : Type} (xs : List α) : stepV xs 1 = xs := by
  unfold stepV
  have e' := places_gen 0 xs.length
  rw [show ((0 : Nat) : Int) = 0 from rfl] at e'
  rw [e']
  have e : (fun (m : Nat) => xs[((0 : Int) + (m : Int) * 1).toNat]?) = fun m => xs[m]? := by
    funext m
    have : ((0 : Int) + (m : Int) * 1).toNat = m := by omega
    rw [this]
  rw [e, Nat.sub_zero]
  clear e
  clear e'
  induction xs with
  | nil => rfl
  | cons x xs ih =>
    rw [List.length_cons, List.range_succ_eq_map, List.filterMap_cons_some (b := x) (by rfl), List.filterMap_map]
    exact congrArg (x :: ·) ih
theorem stepV_mem {α : Type} {xs : List α} {k : Int} {x : α} (h : x ∈ stepV xs k) : x ∈ xs := by
  obtain ⟨m, _, e⟩ := List.mem_filterMap.mp h
  exact List.mem_of_getElem? e
theorem stepV_len {α : Type} {xs : List α} {k : Int} (hk : 1 ≤ k) : (stepV xs k).length ≤ xs.length := by
  refine Nat.le_trans (List.length_filterMap_le _ _) ?_
  rw [List.length_range]
  unfold Builtin.Slice.slicePlaces
  rw [if_pos (by omega)]
  split
  · have : ((xs.length : Int) - 0 - 1) / k ≤ (xs.length : Int) - 0 - 1 := Int.ediv_le_self _ (by omega)
    omega
  · simp
theorem stepV_pair {α : Type} {r : α → α → Prop} {xs : List α} {k : Int} (hk : 1 ≤ k) (h : xs.Pairwise r) : (stepV xs k).Pairwise r := by
  unfold stepV
  rw [List.pairwise_filterMap]
  refine List.Pairwise.imp ?_ List.pairwise_lt_range
  intro m n hmn b hb c hc
  obtain ⟨i1, e1⟩ := List.getElem?_eq_some_iff.mp hb
  obtain ⟨i2, e2⟩ := List.getElem?_eq_some_iff.mp hc
  rw [← e1, ← e2]
  refine List.pairwise_iff_getElem.mp h _ _ _ _ ?_
  have : ((m : Int) * k) < (n : Int) * k := Int.mul_lt_mul_of_pos_right (by omega) (by omega)
  have h0 : 0 ≤ (m : Int) * k := Int.mul_nonneg (by omega) (by omega)
  omega
theorem stepV_map {α β : Type} (f : α → β) (xs : List α) (k : Int) : stepV (xs.map f) k = (stepV xs k).map f := by
  unfold stepV
  rw [List.length_map, List.map_filterMap]
  congr 1
  funext m
  rw [List.getElem?_map]
section
variable {prog : Program} {w : World} {A : Around} {E : Value → Shared → Prop} {s : Shared}
theorem sliceApplied_step {sl : Addr} {k : Int} {t : Tok} {n : Nat} {Q : Int × Int × Nat → Shared → Prop} (hs : s.heap.IsSliceOf sl .none .none (.int k t)) (hk : 1 ≤ k)
    (h : Q (0, k, Builtin.Slice.slicePlaces 0 (n : Int) k) s) : wpAny (model prog w) A (Builtin.Slice.sliceApplied (.ref sl) (pure (n : Int))) Q E s := by
  obtain ⟨os, hos, hcs, hds⟩ := id hs
  unfold Builtin.Slice.sliceApplied Builtin.Slice.sliceFields
  refine wpAny_bind (wpAny_bind (wpAny_field hos hds (x := .none) rfl (wpAny_bind (wpAny_field hos hds (x := .none) rfl (wpAny_bind (wpAny_field hos hds (x := .int k t) rfl (wpAny_pure ?_)))))))
  refine wpAny_bind (slicePart_int ?_)
  show wpAny _ _ (if (k == 0) = true then _ else _) _ _ s
  rw [if_neg (by intro e; have := eq_of_beq e; omega)]
  refine wpAny_bind (slicePart_none (wpAny_bind (slicePart_none (wpAny_bind (wpAny_pure ?_)))))
  have e : Builtin.Slice.sliceAdjust none none k (n : Int) = (0, (n : Int)) := by
    unfold Builtin.Slice.sliceAdjust
    have : ¬ k < 0 := by omega
    simp only [this, if_false]
  show wpAny _ _ (match Builtin.Slice.sliceAdjust none none k (n : Int) with | (lo, hi) => pure (lo, k, Builtin.Slice.slicePlaces lo hi k)) _ _ s
  rw [e]
  exact wpAny_pure h
theorem getItem_tuple_step {t sl : Addr} {items : Array Value} {k : Int} {u : Tok} {Q : Value → Shared → Prop} (ht : IsTup s.heap t items) (hs : s.heap.IsSliceOf sl .none .none (.int k u)) (hk : 1 ≤ k)
    (h1 : k = 1 → Q (.ref t) s) (h2 : k ≠ 1 → Q (.ref s.heap.objs.size) { s with heap := s.heap.push { cls := .type "tuple", data := .seq (stepV items.toList k).toArray } })
    (hsz : items.size ≤ sizeLine) : wpAny (model prog w) A (getItem (.ref t) (.ref sl)) Q E s := by
  have htake : sizeOk (.seq (stepV items.toList k).toArray) := by
    show (stepV items.toList k).toArray.size ≤ sizeLine
    have e0 : (stepV items.toList k).toArray.size = (stepV items.toList k).length := by simp
    refine Nat.le_trans (Nat.le_of_eq e0) ?_
    have := stepV_len (xs := items.toList) hk
    rw [Array.length_toList (xs := items)] at this
    omega
  obtain ⟨os, hos, hcs, hds⟩ := id hs
  have hTs : s.TypeIs (.ref sl) "slice" := ⟨os, hos, hcs⟩
  unfold getItem
  try with_reducible refine wpAny_holding ?_
  first | refine wpAny_bind (wpAny_pure ?_) | skip
  refine wpAny_bind (wpAny_sequenceKey ht.typeIs (by decide) ?_)
  refine wpAny_bind (wpAny_callSpecial?_slot (name := Str.ofString "__getitem__") ht.typeIs PyProof.Rows.slot_tuple_getitem
    (wpAny_call_entry PyProof.Rows.slot_tuple_getitem ht.typeIs entry_tuple_getitem ?_ (args_tuple_getitem _ _)))
  show wpAny _ _ (Builtin.Tuple.tupleItemsOf (.ref t) >>= _) _ _ s
  refine wpAny_bind (tupleItemsOf_ ht ?_)
  refine wpAny_bind (wpAny_typeOf hTs ?_)
  rw [if_pos (by decide)]
  refine wpAny_bind (sliceApplied_step hs hk ?_)
  show wpAny _ _ (if ((0 : Int) == 0 && k == 1 && Builtin.Slice.slicePlaces 0 (items.size : Int) k == items.size) = true then _ else _) _ _ s
  by_cases e1 : k = 1
  · subst e1
    have hyes : ((0 : Int) == 0 && (1 : Int) == 1 && Builtin.Slice.slicePlaces 0 (items.size : Int) 1 == items.size) = true := by
      have e := places_gen 0 items.size
      rw [show ((0 : Nat) : Int) = 0 from rfl] at e
      rw [e]; simp
    rw [if_pos hyes]
    refine wpAny_bind ?_
    show wpAny _ _ (typeOf (.ref t) >>= fun T => pure (T == .type "tuple")) _ _ s
    refine wpAny_bind (wpAny_typeOf ht.typeIs (wpAny_pure ?_))
    first
      | rw [if_pos (by decide)]
      | simp only [beq_self_eq_true, if_true]
    first
      | exact wpAny_bind (wpAny_rule (wpAny_pure ⟨_, rfl, wpAny_pure (h1 rfl)⟩))
      | exact wpAny_bind (wpAny_rule (wpAny_bind (wpAny_pure (wpAny_pure ⟨_, rfl, wpAny_pure (h1 rfl)⟩))))
  · have hno : ¬ (((0 : Int) == 0 && k == 1 && Builtin.Slice.slicePlaces 0 (items.size : Int) k == items.size) = true) := by
      intro q
      rw [Bool.and_eq_true, Bool.and_eq_true] at q
      exact e1 (eq_of_beq q.1.2)
    rw [if_neg hno]
    have h := h2 e1
    have ep : ((List.range (Builtin.Slice.slicePlaces 0 (items.size : Int) k)).filterMap fun (m : Nat) => items[((0 : Int) + (m : Int) * k).toNat]?).toArray = (stepV items.toList k).toArray := by
      unfold stepV
      rw [Array.length_toList]
      congr 1
      congr 1
      funext m
      rw [Array.getElem?_toList]
    rw [ep]
    first
      | exact wpAny_bind (m := Builtin.Tuple.tupleExact _) (wpAny_newObj_type (wpAny_pure ⟨_, rfl, wpAny_pure h⟩) htake)
      | exact wpAny_bind (m := Builtin.Tuple.tupleExact _) (wpAny_newObj_type (wpAny_bind (wpAny_pure (wpAny_pure ⟨_, rfl, wpAny_pure h⟩))) htake)
      | exact wpAny_bind (wpAny_bind (m := Builtin.Tuple.tupleExact _) (wpAny_newObj_type (wpAny_pure (wpAny_pure ⟨_, rfl, wpAny_pure h⟩)) htake))
      | exact wpAny_bind (wpAny_bind (m := Builtin.Tuple.tupleExact _) (wpAny_newObj_type (wpAny_pure ⟨_, rfl, wpAny_pure h⟩) htake))
end
theorem stepV_vals {xs : List V} {us : List Value} (r : Vals xs us) (k : Int) : Vals (stepV xs k) (stepV us k) := by
  unfold stepV
  rw [r.length]
  generalize List.range _ = l
  induction l with
  | nil => exact .nil
  | cons m l ih =>
    cases e : xs[((0 : Int) + (m : Int) * k).toNat]? with
    | none =>
      rw [List.filterMap_cons_none (f := fun (m : Nat) => xs[((0 : Int) + (m : Int) * k).toNat]?) e, List.filterMap_cons_none (f := fun (m : Nat) => us[((0 : Int) + (m : Int) * k).toNat]?) (r.none_of e)]
      exact ih
    | some x =>
      obtain ⟨u, hu, ru⟩ := r.get e
      rw [List.filterMap_cons_some (f := fun (m : Nat) => xs[((0 : Int) + (m : Int) * k).toNat]?) e, List.filterMap_cons_some (f := fun (m : Nat) => us[((0 : Int) + (m : Int) * k).toNat]?) hu]
      exact .cons ru ih
end HT
namespace L2
open PySem PySem.Spec PyProof.Rows HT
def tStepT (K : PySem.W.Frag) (te ts : TE) : TE := fun σ H Q => te σ H fun x H1 => ts σ H1 fun y H2 => ∃ a xs k, x = .ref a ∧ y = .int k ∧ SqT K H2 a xs ∧ 1 ≤ k ∧
  (k = 1 → Q (.ref a) H2) ∧ (k ≠ 1 → ∀ p, H2 p = none → Q (.ref p) (upd H2 p (.tup (stepV xs k))))
section
variable {X : Cx} {e st : Expr} {te ts : TE} {pos p2 : Pos}
theorem pe_stepT (he : PE X e te) (hu : PE X st ts) : PE X (.Subscript e (.Slice none none (some st) p2) pos) (tStepT X.K te ts) := by
  refine ⟨fun pins s σ H Q I h => ?_⟩
  refine Subscript_ (thn (he.run pins s σ H _ I h) fun v s1 ⟨x, H1, I1, r1, q1⟩ => ?_)
  refine wpAny_Slice ?_
  rw [evalPart_none]
  refine wpAny_pure (wpAny_pure ?_)
  rw [evalPart_some]
  refine thn (hu.run pins s1 σ H1 _ I1 q1) fun vy s3 ⟨y, H3, I3, ry, q3⟩ => ?_
  obtain ⟨a, xs, k, rfl, rfl, hx, hk, k1, k2⟩ := q3
  cases r1
  obtain ⟨t, rfl⟩ := ry
  have I4 : Inv X pins σ H3 { s3 with heap := s3.heap.push { cls := .type "slice", data := .fields #[.none, .none, .int k t] } } := I3.kept (t' := s3.toks) fun b ob q => Heap.get?_push_of_some _ q
  obtain ⟨its, r, ht, hz⟩ := I4.tuple hx
  have hz' : its.toArray.size ≤ sizeLine := by rw [List.size_toArray, ← r.length]; exact hz
  refine tail_any (ops := [.ref a, .ref s3.heap.objs.size]) ht.typeIs PyProof.Rows.slot_tuple_getitem.lookup ?_ (by with_unfolding_all rfl)
  refine getItem_tuple_step ht (Heap.IsSliceOf.new ..) hk (fun e1 => ⟨.ref a, H3, I4, rfl, k1 e1⟩) (fun e1 => ?_) hz'
  refine ⟨.ref _, _, I4.laid (t' := s3.toks) (o := .tup (stepV xs k)) (fun b ob q => Heap.get?_push_of_some _ q) (Nat.le_refl _) ?_, rfl, k2 e1 _ (I4.hok.fresh (Nat.le_refl _))⟩
  exact ⟨Nat.le_trans (stepV_len hk) hz, _, stepV_vals r k, IsTup.new _ _⟩
end
end L2

namespace Co
open PySem PySem.Spec PyProof.Rows L2
section
variable {γ : Type} {X : Cx} {W : Wd γ} {g : γ} {ρ : Sl} {e a b st : Expr} {es : List Expr} {pos p p2 : Pos} {φ : D → γ → Prop}
theorem stepRs {M : Addr → Prop} {H : Hp} {ds : List D} {vs : List V} (h : Rs M H ds vs) (k : Int) : Rs M H (HT.stepV ds k) (HT.stepV vs k) := by
  unfold HT.stepV
  rw [h.length]
  generalize List.range _ = l
  induction l with
  | nil => rfl
  | cons m l ih =>
    cases e : vs[((0 : Int) + (m : Int) * k).toNat]? with
    | none =>
      have e2 : ds[((0 : Int) + (m : Int) * k).toNat]? = none := by
        rw [List.getElem?_eq_none_iff] at e ⊢
        rw [← h.length]; exact e
      rw [List.filterMap_cons_none (f := fun (m : Nat) => vs[((0 : Int) + (m : Int) * k).toNat]?) e, List.filterMap_cons_none (f := fun (m : Nat) => ds[((0 : Int) + (m : Int) * k).toNat]?) e2]
      exact ih
    | some x =>
      obtain ⟨u, hu, ru⟩ := h.get' e
      rw [List.filterMap_cons_some (f := fun (m : Nat) => vs[((0 : Int) + (m : Int) * k).toNat]?) e, List.filterMap_cons_some (f := fun (m : Nat) => ds[((0 : Int) + (m : Int) * k).toNat]?) hu]
      exact ⟨_, _, rfl, ru, ih⟩
/-- t[::k] -/
theorem ev_stepT (h : PEv X W g ρ a fun d g1 => ∃ ds, d = .tup ds ∧ PEv X W g1 ρ st fun y g2 => ∃ k, y = .int k ∧ 1 ≤ k ∧ φ (.tup (HT.stepV ds k)) g2) : PEv X W g ρ (.Subscript a (.Slice none none (some st) p2) pos) φ := fun M0 σ H Q r k =>
  toE (pe_stepT pe_c pe_c) (h M0 σ H _ r fun v d g1 H1 x1 j1 r1 p => by
    obtain ⟨ds, rfl, p⟩ := p
    refine p M0 σ H1 _ (r.ext x1 j1) fun v2 y g2 H2 x2 j2 r2 p => ?_
    obtain ⟨i, rfl, hi, p⟩ := p
    have rt := RS.mono x2 r1
    obtain ⟨q, vs, rfl, nq, hq, rs⟩ := id rt
    have e := x1.trans x2
    refine ⟨q, vs, i, rfl, r2, SqT.of hq, hi, fun z => ?_, fun z n hn => ?_⟩
    · subst z
      rw [HT.stepV_one] at p
      exact k _ (.tup ds) g2 H2 e j2 ⟨q, vs, rfl, nq, hq, rs⟩ p
    · exact k _ (.tup (HT.stepV ds i)) g2 _ (e.trans (Ext.of_same (same_new hn))) (W.same j2 (same_new hn)) (r_freshT hn ((r.ext x1 j1).ext x2 j2).dm (stepRs rs i)) p)

/-! ### no lists inside -/
mutual
def D.nl : D → Bool
  | .lst _ => false
  | .tup ds => D.nls ds
  | .frz ds => D.nls ds
  | _ => true
def D.nls : List D → Bool
  | [] => true
  | d :: ds => d.nl && D.nls ds
end
/-- lists stand apart from what has none inside -/
def Lsts (H : Hp) (M : Addr → Prop) : Addr → Prop := fun a => M a ∨ ∃ vs, H a = some (.lst vs)
mutual
theorem R.nl {M : Addr → Prop} {H : Hp} : ∀ (d : D) (v : V), d.nl = true → R M H d v → R (Lsts H M) H d v
  | .non, v, _, h => h
  | .bl b, v, _, h => h
  | .int i, v, _, h => h
  | .str x, v, _, h => h
  | .ref a, v, _, h => h
  | .lst ds, v, n, h => by cases n
  | .tup ds, v, n, h => by
    obtain ⟨a, vs, e, na, ha, q⟩ := h
    exact ⟨a, vs, e, fun z => z.elim na fun ⟨w, hw⟩ => (by rw [ha] at hw; cases hw), ha, Rs.nl ds vs n q⟩
  | .frz ds, v, n, h => by
    obtain ⟨a, o, vs, e, na, ha, q⟩ := h
    exact ⟨a, o, vs, e, fun z => z.elim na fun ⟨w, hw⟩ => (by rw [ha] at hw; cases hw), ha, Rs.nl ds vs n q⟩
theorem Rs.nl {M : Addr → Prop} {H : Hp} : ∀ (ds : List D) (vs : List V), D.nls ds = true → Rs M H ds vs → Rs (Lsts H M) H ds vs
  | [], vs, _, h => h
  | d :: ds, vs, n, h => by
    obtain ⟨v, r, e, a, b⟩ := h
    have n2 : (d.nl && D.nls ds) = true := n
    rw [Bool.and_eq_true] at n2
    exact ⟨v, r, e, R.nl d v n2.1 a, Rs.nl ds r n2.2 b⟩
end
end

section
variable {γ : Type} {X : Cx} {W : Wd γ} {g : γ} {ρ : Sl} {e a b st : Expr} {es : List Expr} {pos p p2 : Pos} {x : Str}
variable {ι : Type} {args : ι → List D} {pre : ι → Prop} {res : ι → D → Prop} {k : Nat}
/-- a def that hands out a new list -/
theorem ef_call {φ : List D → γ → Prop} (G : Gd X.prog X.w X.K X.mg X.base x k (SpF args pre res)) (hr : Room k X.A) (h : PAv X W g ρ (e :: es) fun ds g' => ∃ i, ds = args i ∧ D.nls ds = true ∧ pre i ∧ ∀ d, res i d → ∃ es, d = .lst es ∧ D.nls es = true ∧ φ es g') (hg : Gl X x := by rfl)
    (hdb : (x == ("__debug__" : Str)) = false := by decide) (he : starEach (e :: es) X.env = (false, eval e X.env) :: starEach es X.env := by rfl) (hpl : (backTo pos (starEach es X.env)).any (·.1) = false := by rfl) : PEf X W g ρ (.Call (.Name x p) (e :: es) [] pos) φ := fun M0 σ H Q r q => by
  obtain ⟨f, fd, ps, F, hm, hk, hb⟩ := G.ex
  refine toE (pe_call F hr hg hm hk hb .nil pass0 pa_c hdb he hpl) (h M0 σ H _ r fun vs ds g1 H1 x1 j1 r1 p => ?_)
  obtain ⟨i, rfl, hn, hp, p⟩ := p
  rw [List.append_nil]
  refine ⟨i, Lsts H1 (MM W M0 ρ), Rs.nl _ _ hn r1, fun a z => ?_, hp, fun v d H' sm rd rs => ?_⟩
  · rcases z with z | ⟨w, hw⟩
    · exact (r.ext x1 j1).dm a z
    · rw [hw]; exact fun z => nomatch z
  · obtain ⟨es, rfl, hn2, p⟩ := p d rs
    obtain ⟨a, ws, rfl, na, ha, q2⟩ := rd
    have h1 : H1 a = none := by
      cases e1 : H1 a with
      | none => rfl
      | some o =>
        have := sm a o e1
        rw [ha] at this; cases this
        exact absurd (.inr ⟨ws, e1⟩) na
    have h0 : H a = none := by
      cases e1 : H a with
      | none => rfl
      | some o => exact absurd h1 (x1.dm a (by rw [e1]; exact fun z => nomatch z))
    refine q a ws es g1 H' (x1.trans (Ext.of_same sm)) (W.same j1 sm) h0 ha (Rs.mv (fun _ _ e _ => e) (fun b _ z => ?_) _ _ (Rs.nl es ws hn2 q2)) p
    rcases z with z | z
    · exact .inl (.inl z)
    · exact .inr ⟨ws, by rw [z]; exact ha⟩
end

/-! ### a list that becomes an object of its own -/
section
variable {γ : Type} {X : Cx} {ρ : Sl} {sts : List Stmt} {E : En Unit}
theorem rs_world {W' : Wd γ} {g : γ} {M0 : Addr → Prop} {σ : L2.St} {H : Hp} {ρ : Sl} (r : RS W' M0 g ρ σ H) : RS W0 M0 () ρ σ H := by
  have sub : ∀ a, MM W0 M0 ρ a → MM W' M0 ρ a := fun a z => z.elim .inl fun z => z.elim (fun z => z.elim) fun z => .inr (.inr z)
  refine ⟨trivial, r.m0, fun p hp => ⟨(r.own p hp).1, fun z => z⟩, r.nd, r.len, fun i s hs => ?_⟩
  have q := r.sl i s hs
  cases s with
  | no => trivial
  | val d =>
    obtain ⟨v, a, b⟩ := q
    exact ⟨v, a, R.mv (fun _ _ e _ => e) (fun a _ z => sub a z) d v b⟩
  | own p ds =>
    obtain ⟨a, vs, b, c⟩ := q
    exact ⟨a, vs, b, Rs.mv (fun _ _ e _ => e) (fun a _ z => sub a z) _ _ c⟩
theorem ss_world {W' : Wd γ} {g : γ} {p : Addr} {ds : List D} (i : Nat) (hd : ρ[i]? = some (.own p ds)) (hm : ∀ a, W'.mj a → a = p) (hj : ∀ (H : Hp) vs (M : Addr → Prop), H p = some (.lst vs) → Rs M H ds vs → W'.J g H)
    (h : PSsv X W' g (ρ.set i (.val (.ref p))) sts { nx := fun ρ' _ => E.nx ρ' (), rt := fun d _ => E.rt d (), bk := fun ρ' _ => E.bk ρ' (), ct := fun ρ' _ => E.ct ρ' () }) : PSsv X W0 () ρ sts E := fun M0 σ H D r m => by
  obtain ⟨e1, vs, hp, rs⟩ := r.sl i _ hd
  have hpo : p ∈ owns ρ := mem_owns.mpr ⟨i, ds, hd⟩
  have hi : i < ρ.length := (List.getElem?_eq_some_iff.mp hd).1
  have sub : ∀ a, a ∈ owns (ρ.set i (.val (.ref p))) → a ∈ owns ρ ∧ a ≠ p := fun a z => by
    obtain ⟨j, es, hj⟩ := mem_owns.mp z
    have hij : i ≠ j := fun z => by
      subst z
      rw [List.getElem?_set_self hi] at hj
      cases hj
    rw [List.getElem?_set_ne hij] at hj
    exact ⟨mem_owns.mpr ⟨j, es, hj⟩, fun e => owns_gone ρ i r.nd hd rfl (e ▸ z)⟩
  have mm : ∀ a, MM W' M0 (ρ.set i (.val (.ref p))) a → MM W0 M0 ρ a := fun a z => by
    rcases z with z | z | z
    · exact .inl z
    · rw [hm a z]; exact .inr (.inr hpo)
    · exact .inr (.inr (sub a z).1)
  have r' : RS W' M0 g (ρ.set i (.val (.ref p))) σ H := by
    refine ⟨hj H vs _ hp rs, r.m0, fun q hq => ⟨(r.own q (sub q hq).1).1, fun z => (sub q hq).2 (hm q z)⟩, ?_, by rw [List.length_set]; exact r.len, fun j s hs => ?_⟩
    · exact r.nd.sublist (owns_set_no rfl ρ i)
    · by_cases hij : i = j
      · subst hij
        rw [List.getElem?_set_self hi] at hs
        cases hs
        exact ⟨_, e1, rfl⟩
      · rw [List.getElem?_set_ne hij] at hs
        have q := r.sl j s hs
        cases s with
        | no => trivial
        | val d =>
          obtain ⟨v, a, b⟩ := q
          exact ⟨v, a, R.mv (fun _ _ e _ => e) (fun a _ z => mm a z) d v b⟩
        | own p ds =>
          obtain ⟨a, vs, b, c⟩ := q
          exact ⟨a, vs, b, Rs.mv (fun _ _ e _ => e) (fun a _ z => mm a z) _ _ c⟩
  have tr : ∀ {ρ' : Sl} {H' : Hp}, Stp W' (ρ.set i (.val (.ref p))) ρ' H H' → Stp W0 ρ ρ' H H' := fun t =>
    ⟨fun a o e n1 n2 => t.kp a o e (fun z => n2 (by rw [hm a z]; exact hpo)) (fun z => n2 (sub a z).1), t.dm, fun q hq => (t.ow q hq).imp (fun z => (sub q z).1) id⟩
  exact h M0 σ H D r' ⟨fun ρ' g' σ' H' r t z => m.nx ρ' () σ' H' (rs_world r) (tr t) z, fun v d g' ρ' H' t j rv z => m.rt v d () ρ' H' (tr t) trivial (R.mv (fun _ _ e _ => e) (fun a _ z => z.elim .inl fun z => z.elim) d v rv) z,
    fun ρ' g' σ' H' r t z => m.bk ρ' () σ' H' (rs_world r) (tr t) z, fun ρ' g' σ' H' r t z => m.ct ρ' () σ' H' (rs_world r) (tr t) z⟩
end
end Co
/-! PL13: the pot of the laws: a list of three ints that a law writes to. -/
namespace Co
open PySem PySem.Spec PyProof.Rows L2
/-- what may stand in the pot's places -/
def okPot (c : Nat) : Nat → Int → Prop
  | 0, v => 0 ≤ v ∧ v < 10 ^ 300
  | 1, v => 0 ≤ v ∧ v < 2 ^ 62
  | _, v => 0 ≤ v ∧ v ≤ c
theorem okPot.up {c c' : Nat} (h : c ≤ c') : ∀ {j : Nat} {v : Int}, okPot c j v → okPot c' j v
  | 0, _, q => q
  | 1, _, q => q
  | _ + 2, _, q => ⟨q.1, by have := q.2; omega⟩
/-- the pot stands at p; at most c draws were made -/
def potW (p : Addr) : Wd Nat := ⟨fun a => a = p, fun c H => ∃ v0 v1 v2, H p = some (.lst [.int v0, .int v1, .int v2]) ∧ okPot c 0 v0 ∧ okPot c 1 v1 ∧ okPot c 2 v2,
  fun g H H' ⟨v0, v1, v2, h, q⟩ k => ⟨v0, v1, v2, k p _ rfl h, q⟩, fun g H a ⟨v0, v1, v2, h, q⟩ e => by rw [e, h]; exact fun z => nomatch z⟩
section
variable {X : Cx} {p : Addr} {c : Nat} {ρ : Sl} {e : Expr} {pos p2 p3 : Pos} {φ : D → Nat → Prop} {E : En Nat} {x : Str} {i : Nat}
theorem ev_pot (j : Nat) {k1 : Nat} (hj : j < 3) (hi : ixN? X.N x = some i := by rfl) (hd : ρ[i]? = some (.val (.ref p)) := by rfl) (h : ∀ v, okPot c j v → φ (.int v) c)
    (hv : Vis X.env.scope x := by first | exact Or.inl rfl | exact Or.inr (Or.inl rfl) | exact Or.inr (Or.inr rfl)) (h1 : (x == ("__debug__" : Str)) = false := by decide) (h2 : (x == ("__classdict__" : Str)) = false := by decide) (hs : PlainIx (.Constant (.int (j : Int)) k1 p3) := by intro _ _; rfl) :
    PEv X (potW p) c ρ (.Subscript (.Name x p2) (.Constant (.int (j : Int)) k1 p3) pos) φ := fun M0 σ H Q r k => by
  obtain ⟨v, e1, rv⟩ := r.sl i _ hd
  cases rv
  obtain ⟨v0, v1, v2, hp, q0, q1, q2⟩ := r.j
  refine toE (pe_ix ix_list (pe_var (ixN?_get hi) hv h1 h2) pe_int hs) ⟨_, e1, ?_⟩
  have hr : ∀ v, okPot c j v → Q (.int v) H := fun v hv => k _ (.int v) c H Ext.refl r.j rfl (h v hv)
  match j, hj, hr with
  | 0, _, hr => exact ⟨p, _, 0, .int v0, rfl, rfl, SqL.of hp, rfl, hr v0 q0⟩
  | 1, _, hr => exact ⟨p, _, 1, .int v1, rfl, rfl, SqL.of hp, rfl, hr v1 q1⟩
  | 2, _, hr => exact ⟨p, _, 2, .int v2, rfl, rfl, SqL.of hp, rfl, hr v2 q2⟩
theorem RS.updW {γ : Type} {W : Wd γ} {M0 : Addr → Prop} {g g' : γ} {σ : L2.St} {H : Hp} {o : HO} (r : RS W M0 g ρ σ H) (hp : W.mj p) (j : W.J g' (upd H p o)) (h0 : ∀ b, W.mj b → b = p) : RS W M0 g' ρ σ (upd H p o) ∧ Stp W ρ ρ H (upd H p o) := by
  have kp : ∀ a o', H a = some o' → ¬ MM W M0 ρ a → upd H p o a = some o' := fun a o' e n => by
    have hne : a ≠ p := fun z => n (.inr (.inl (by rw [z]; exact hp)))
    rw [upd_ne hne]; exact e
  refine ⟨⟨j, fun a h n => r.m0 a h ?_, r.own, r.nd, r.len, fun i s hs => ?_⟩, ⟨fun a o' e n _ => ?_, fun a n z => n ?_, fun p hp => .inl hp⟩⟩
  · by_cases e : a = p
    · subst e; rw [upd_same] at n; cases n
    · rw [upd_ne e] at n; exact n
  · have q := r.sl i s hs
    cases s with
    | no => trivial
    | val d =>
      obtain ⟨v, a, b⟩ := q
      exact ⟨v, a, R.mv kp (fun _ _ z => z) d v b⟩
    | own q2 ds =>
      obtain ⟨a, vs, b, c⟩ := q
      refine ⟨a, vs, ?_, Rs.mv kp (fun _ _ z => z) _ _ c⟩
      have hne : q2 ≠ p := fun z => (r.own q2 (mem_owns.mpr ⟨i, ds, hs⟩)).2 (by rw [z]; exact hp)
      rw [upd_ne hne]; exact b
  · have hne : a ≠ p := fun z => n (by rw [z]; exact hp)
    rw [upd_ne hne]; exact e
  · by_cases e : a = p
    · subst e; rw [upd_same] at z; cases z
    · rw [upd_ne e] at z; exact z
theorem s_pot (j : Nat) {k1 : Nat} (hj : j < 3) {c' : Nat} (h : PEv X (potW p) c ρ e fun d c1 => c1 = c ∧ c ≤ c' ∧ ∃ v, d = .int v ∧ okPot c' j v ∧ E.nx ρ c') (hi : ixN? X.N x = some i := by rfl) (hd : ρ[i]? = some (.val (.ref p)) := by rfl)
    (hv : Vis X.env.scope x := by first | exact Or.inl rfl | exact Or.inr (Or.inl rfl) | exact Or.inr (Or.inr rfl)) (h1 : (x == ("__debug__" : Str)) = false := by decide) (h2 : (x == ("__classdict__" : Str)) = false := by decide)
    (ha : ∀ v, assign (.Subscript (.Name x p2) (.Constant (.int (j : Int)) k1 p3) pos) X.env v = (do
      let ov ← holding [v] (eval (.Name x p2) X.env)
      let iv ← holding [v, ov] (eval (.Constant (.int (j : Int)) k1 p3) X.env)
      standAt pos
      holding [v, ov, iv] (setItem ov iv v)
      release [v, ov, iv] []) := by intro _; rfl) {pos2 : Pos}
    (hs : swapsWithSole [.Subscript (.Name x p2) (.Constant (.int (j : Int)) k1 p3) pos] e pos2.line X.env = pure false := by rfl) (hw : swappedStores [.Subscript (.Name x p2) (.Constant (.int (j : Int)) k1 p3) pos] e X.env = pure none := by rfl)
    (hh1 : (assignEach [.Subscript (.Name x p2) (.Constant (.int (j : Int)) k1 p3) pos] X.env).map (·.2) = [assign (.Subscript (.Name x p2) (.Constant (.int (j : Int)) k1 p3) pos) X.env] := by rfl) :
    PSv X (potW p) c ρ (.Assign [.Subscript (.Name x p2) (.Constant (.int (j : Int)) k1 p3) pos] e pos2) E := fun M0 σ H D r m => by
  refine toS (ps_asg pe_c (pg_sub (pe_var (ixN?_get hi) hv h1 h2) pe_int set_list ha) hs hw hh1) (h M0 σ H _ r fun v d g1 H1 x1 j1 r1 q => ?_)
  obtain ⟨rfl, hc, w, rfl, hw', q⟩ := q
  cases r1
  obtain ⟨v', e1, rv⟩ := r.sl i _ hd
  cases rv
  have j0 := j1
  obtain ⟨v0, v1, v2, hp, q0, q1, q2⟩ := j1
  refine ⟨_, e1, ?_⟩
  have rr := r.ext x1 j0
  have fin : ∀ o : HO, (potW p).J c' (upd H1 p o) → D.nx σ (upd H1 p o) := fun o jj => by
    obtain ⟨a, b⟩ := rr.updW (o := o) rfl jj (fun b z => z)
    exact m.nx _ _ _ _ a ((Stp.of_ext x1).trans b) q
  match j, hj, hw' with
  | 0, _, hw' => exact ⟨p, _, 0, 0, rfl, rfl, hp, rfl, fin _ ⟨w, v1, v2, upd_same, hw', q1.up hc, q2.up hc⟩⟩
  | 1, _, hw' => exact ⟨p, _, 1, 1, rfl, rfl, hp, rfl, fin _ ⟨v0, w, v2, upd_same, q0.up hc, hw', q2.up hc⟩⟩
  | 2, _, hw' => exact ⟨p, _, 2, 2, rfl, rfl, hp, rfl, fin _ ⟨v0, v1, w, upd_same, q0.up hc, q1.up hc, hw'⟩⟩
/-- a new pot is an object of its own -/
theorem ss_pot {p : Addr} {sts : List Stmt} {E : En Unit} {v0 v1 v2 : Int} (i : Nat) (hd : ρ[i]? = some (.own p [.int v0, .int v1, .int v2])) (q0 : okPot c 0 v0) (q1 : okPot c 1 v1) (q2 : okPot c 2 v2)
    (h : PSsv X (potW p) c (ρ.set i (.val (.ref p))) sts { nx := fun ρ' _ => E.nx ρ' (), rt := fun d _ => E.rt d (), bk := fun ρ' _ => E.bk ρ' (), ct := fun ρ' _ => E.ct ρ' () }) : PSsv X W0 () ρ sts E :=
  ss_world i hd (fun _ z => z) (fun H vs M hp rs => by
    obtain ⟨a, r1, rfl, ra, rs⟩ := rs
    obtain ⟨b, r2, rfl, rb, rs⟩ := rs
    obtain ⟨c', r3, rfl, rc, rs⟩ := rs
    cases ra; cases rb; cases rc; cases rs
    exact ⟨v0, v1, v2, hp, q0, q1, q2⟩) h
end
end Co
/-! PL14: x, y, z = a, b, c. -/
namespace Co
open PySem PySem.Spec PyProof.Rows L2
section
variable {γ : Type} {X : Cx} {W : Wd γ} {g : γ} {ρ : Sl} {a b c : Expr} {pos : Pos} {E : En γ}
theorem s_par3 (i j l : Nat) {x y z : Str} {px py pz pt pt2 : Pos} {kt k2 : Nat} (h : PEv X W g ρ a fun d g1 => PEv X W g1 ρ b fun d2 g2 => PEv X W g2 ρ c fun d3 g3 => E.nx (((ρ.set i (.val d)).set j (.val d2)).set l (.val d3)) g3) (hN : X.N.Nodup := by assumption) (hi : X.N[i]? = some x := by rfl) (hj : X.N[j]? = some y := by rfl) (hl : X.N[l]? = some z := by rfl)
    (hij : i ≠ j := by decide) (hil : i ≠ l := by decide) (hjl : j ≠ l := by decide)
    (hx : X.env.scope.names.lookup x = some .local := by rfl) (hy : X.env.scope.names.lookup y = some .local := by rfl) (hz : X.env.scope.names.lookup z = some .local := by rfl) (hc : X.calm = true := by rfl)
    (ha : starEach [a, b, c] X.env = [(false, eval a X.env), (false, eval b X.env), (false, eval c X.env)] := by rfl) (hb : starEach [b, c] X.env = [(false, eval b X.env), (false, eval c X.env)] := by rfl) (hb1 : starEach [c] X.env = [(false, eval c X.env)] := by rfl)
    (hw : swappedStores [.Tuple [.Name x px, .Name y py, .Name z pz] kt pt] (.Tuple [a, b, c] k2 pt2) X.env = pure (some [x, y, z]) := by rfl)
    (hs : swapsWithSole [.Tuple [.Name x px, .Name y py, .Name z pz] kt pt] (.Tuple [a, b, c] k2 pt2) pos.line X.env = pure false := by rfl) : PSv X W g ρ (.Assign [.Tuple [.Name x px, .Name y py, .Name z pz] kt pt] (.Tuple [a, b, c] k2 pt2) pos) E := fun M0 σ H D r m => by
  refine toS (ps_par3 hc hN hi hj hl hij hil hjl hx hy hz (pa_cons pe_c (pa_cons pe_c (pa_cons pe_c pa_nil (by rw [hb1]; rfl)) (by rw [hb, hb1])) (by rw [ha, hb])) hw hs) (h M0 σ H _ r fun v d g1 H1 x1 j1 r1 q => ?_)
  refine q M0 σ H1 _ (r.ext x1 j1) fun v2 d2 g2 H2 x2 j2 r2 q => ?_
  have rr2 := (r.ext x1 j1).ext x2 j2
  refine q M0 σ H2 _ rr2 fun v3 d3 g3 H3 x3 j3 r3 q => ?_
  have rr3 := rr2.ext x3 j3
  have q1 := RS.mono x3 (RS.mono x2 r1)
  have q2 := RS.mono x3 r2
  refine ⟨v, v2, v3, rfl, ?_⟩
  have s1 := rr3.set (d := d) (v := v) q1 i
  have sub : ∀ {ρ2 : Sl} {e : Co.D} {k : Nat}, ∀ a, MM W M0 (ρ2.set k (.val e)) a → MM W M0 ρ2 a := fun {ρ2 e k} a z => z.imp id fun z => z.imp id fun z => (owns_set_no rfl ρ2 k).subset z
  have s2 := s1.set (d := d2) (v := v2) (R.mv (fun _ _ e _ => e) (fun a _ z => sub a z) _ _ q2) j
  have s3 := s2.set (d := d3) (v := v3) (R.mv (fun _ _ e _ => e) (fun a _ z => sub a (sub a z)) _ _ r3) l
  exact m.nx _ g3 _ H3 s3 ((Stp.of_ext ((x1.trans x2).trans x3)).trans ((Stp.set.trans Stp.set).trans Stp.set)) q
theorem PAv.imp {es : List Expr} {φ ψ : List D → γ → Prop} (h : PAv X W g ρ es φ) (k : ∀ d g', φ d g' → ψ d g') : PAv X W g ρ es ψ := fun M0 σ H Q r q => h M0 σ H Q r fun v d g' H' x j rv p => q v d g' H' x j rv (k d g' p)
end
/-! ### a law's end -/
abbrev LawA (s : D × List Int) : List D := [s.1]
abbrev LawP (K : PySem.W.Frag) (s : D × List Int) : Prop := ScD K s.1 s.2 ∧ s.2.length ≤ 63
theorem ints_rs {M : Addr → Prop} {H : Hp} : ∀ ns : List Int, Rs M H (ns.map D.int) (ns.map V.int)
  | [] => rfl
  | n :: ns => ⟨.int n, ns.map V.int, rfl, rfl, ints_rs ns⟩
theorem law_sp {K : PySem.W.Frag} {H : Hp} {a : Addr} {ns : List Int} (hl : ns.length ≤ 63) (hO : Only H) (h : SqL K H a (ns.map V.int)) :
    SpF LawA (LawP K) (fun _ d => d = .bl true) [.ref a] H (fun v _ => v = .bl true) fun _ _ _ => False := by
  have fin : ∀ (v : V) (d : D) (H' : Hp), Same H H' → R (fun _ => False) H' d v → d = .bl true → v = .bl true := fun v d H' _ r e => by rw [e] at r; exact r
  rcases h with h | h
  · rcases h with h | ⟨o, h⟩
    · rcases hO a with e | ⟨o, xs, e⟩
      · rw [e] at h; cases h
      · rw [e] at h; cases h
    · exact ⟨(.frz (ns.map D.int), ns), fun _ => False, ⟨_, [], rfl, ⟨a, o, _, rfl, fun z => z, h, ints_rs ns⟩, rfl⟩, fun _ z => z.elim, ⟨.inl rfl, hl⟩, fin⟩
  · exact ⟨(.ref a, ns), fun _ => False, ⟨_, [], rfl, rfl, rfl⟩, fun _ z => z.elim, ⟨.inr ⟨a, rfl, fun H => .inr h⟩, hl⟩, fin⟩
theorem law_end {P : Program} {w : World} {K : PySem.W.Frag} {mg : Str → Option Value} {h : Heap} {fa : Addr} {k : Nat} {st : Stmt} (X : K.In h) (hmg : mg ("law" : PySem.Str) = some (.ref fa)) (hf : ∃ (f : Addr) (fd : FuncData), FnP K "law" "law" st f fd ∧ mg "law" = some (.ref f))
    (hb : ∀ (kV doc pm : Value) (an : Option Addr) (cdv ct : Value) (us : List Value), us.length = 1 → bindArgs (PySem.W.fnOf "law" "law" (defArgs st) (defBody st) (defScope st) .none kV doc pm an cdv ct) ⟨us, []⟩ = pure ((["_law_script"] : List Str).zip us))
    (ok : ∀ (base : Heap) (f : Addr) (fd : FuncData), FnP K "law" "law" st f fd → FnOk P w K mg base CX0 k f fd ["_law_script"] (SpF LawA (LawP K) fun _ d => d = .bl true)) :
  ∃ (K : PySem.W.Frag) (fd : FuncData) (sp : Sp), K.In h ∧ (∀ (s : Shared) (u : Value), BindsTo s fd ⟨[u], []⟩ [("_law_script", u)]) ∧
        (∀ (H : Hp) (a : Addr) (ns : List Int), ns.length ≤ 63 → Only H → SqL K H a (ns.map V.int) → sp [.ref a] H (fun v _ => v = .bl true) fun _ _ _ => False) ∧
        ∀ base : Heap, K.In base → base.Ns mainGlobals mg → FnOk P w K mg base CX0 k fa fd ["_law_script"] sp := by
  obtain ⟨f, fd, F, hm⟩ := hf
  have e : f = fa := by
    rw [hm] at hmg
    injection hmg with hmg
    injection hmg
  subst e
  exact ⟨K, fd, _, X, fun s u => F.bindsA (ps := ["_law_script"]) hb s [u] rfl, fun H a ns hl hO hS => law_sp hl hO hS, fun base _ _ => ok base f fd F⟩
end Co

namespace Co
open PySem PySem.Spec PyProof.Rows L2
/-! ### the text, by places -/
def topS (i : Nat) : Stmt := PySem.Challenge.pw_copyorigins_k08_sets_of_great_positions.main.body.getD i (.Pass ⟨0, 0, 0, 0⟩)
abbrev s_is_end : Stmt := topS 2
abbrev N_is_end : List Str := ["value"]
theorem sc_is_end : FnScope N_is_end ["value"] (defScope s_is_end) := ⟨rfl, rfl, rfl, by decide +kernel, rfl, by decide +kernel, by decide +kernel⟩
abbrev s_is_pair : Stmt := topS 3
abbrev N_is_pair : List Str := ["value", "end"]
theorem sc_is_pair : FnScope N_is_pair ["value"] (defScope s_is_pair) := ⟨rfl, rfl, rfl, by decide +kernel, rfl, by decide +kernel, by decide +kernel⟩
abbrev s_is_position_set : Stmt := topS 4
abbrev N_is_position_set : List Str := ["value", "pair", "later"]
theorem sc_is_position_set : FnScope N_is_position_set ["value"] (defScope s_is_position_set) := ⟨rfl, rfl, rfl, by decide +kernel, rfl, by decide +kernel, by decide +kernel⟩
abbrev s_merged : Stmt := topS 5
abbrev N_merged : List Str := ["pairs", "found", "first", "last"]
theorem sc_merged : FnScope N_merged ["pairs"] (defScope s_merged) := ⟨rfl, rfl, rfl, by decide +kernel, rfl, by decide +kernel, by decide +kernel⟩
abbrev s_union : Stmt := topS 6
abbrev N_union : List Str := ["one", "other"]
theorem sc_union : FnScope N_union ["one", "other"] (defScope s_union) := ⟨rfl, rfl, rfl, by decide +kernel, rfl, by decide +kernel, by decide +kernel⟩
abbrev s_common : Stmt := topS 7
abbrev N_common : List Str := ["one", "other", "found", "at", "first", "last", "here"]
theorem sc_common : FnScope N_common ["one", "other"] (defScope s_common) := ⟨rfl, rfl, rfl, by decide +kernel, rfl, by decide +kernel, by decide +kernel⟩
abbrev s_outside : Stmt := topS 8
abbrev N_outside : List Str := ["positions", "first", "last", "found", "low", "high", "pair"]
theorem sc_outside : FnScope N_outside ["positions", "first", "last"] (defScope s_outside) := ⟨rfl, rfl, rfl, by decide +kernel, rfl, by decide +kernel, by decide +kernel⟩
abbrev s_difference : Stmt := topS 9
abbrev N_difference : List Str := ["one", "other"]
theorem sc_difference : FnScope N_difference ["one", "other"] (defScope s_difference) := ⟨rfl, rfl, rfl, by decide +kernel, rfl, by decide +kernel, by decide +kernel⟩
abbrev s_clipped : Stmt := topS 10
abbrev N_clipped : List Str := ["positions", "first", "last", "kept", "low", "high"]
theorem sc_clipped : FnScope N_clipped ["positions", "first", "last"] (defScope s_clipped) := ⟨rfl, rfl, rfl, by decide +kernel, rfl, by decide +kernel, by decide +kernel⟩
abbrev s_size : Stmt := topS 11
abbrev N_size : List Str := ["positions", "first", "last"]
theorem sc_size : FnScope N_size ["positions"] (defScope s_size) := ⟨rfl, rfl, rfl, by decide +kernel, rfl, by decide +kernel, by decide +kernel⟩
abbrev s_contains : Stmt := topS 12
abbrev N_contains : List Str := ["positions", "position", "first", "last"]
theorem sc_contains : FnScope N_contains ["positions", "position"] (defScope s_contains) := ⟨rfl, rfl, rfl, by decide +kernel, rfl, by decide +kernel, by decide +kernel⟩
abbrev s__law_pot : Stmt := topS 14
abbrev N__law_pot : List Str := ["_law_script", "_law_k", "_law_cell", "_law_own"]
theorem sc__law_pot : FnScope N__law_pot ["_law_script", "_law_k"] (defScope s__law_pot) := ⟨rfl, rfl, rfl, by decide +kernel, rfl, by decide +kernel, by decide +kernel⟩
abbrev s__law_take : Stmt := topS 15
abbrev N__law_take : List Str := ["_law_pot_here", "_law_below", "_law_digit", "_law_blend"]
theorem sc__law_take : FnScope N__law_take ["_law_pot_here", "_law_below"] (defScope s__law_take) := ⟨rfl, rfl, rfl, by decide +kernel, rfl, by decide +kernel, by decide +kernel⟩
abbrev s__law_of : Stmt := topS 16
abbrev N__law_of : List Str := ["_law_pot_here", "_law_some"]
theorem sc__law_of : FnScope N__law_of ["_law_pot_here", "_law_some"] (defScope s__law_of) := ⟨rfl, rfl, rfl, by decide +kernel, rfl, by decide +kernel, by decide +kernel⟩
abbrev s__law_great : Stmt := topS 17
abbrev N__law_great : List Str := ["_law_pot_here", "_law_many", "_law_found", "_law_place", "_law_turn", "_law_last"]
theorem sc__law_great : FnScope N__law_great ["_law_pot_here", "_law_many"] (defScope s__law_great) := ⟨rfl, rfl, rfl, by decide +kernel, rfl, by decide +kernel, by decide +kernel⟩
abbrev s__law_moved : Stmt := topS 18
abbrev N__law_moved : List Str := ["_law_pairs", "_law_by", "_law_first", "_law_last"]
theorem sc__law_moved : FnScope N__law_moved ["_law_pairs", "_law_by"] (defScope s__law_moved) := ⟨rfl, rfl, rfl, by decide +kernel, rfl, by decide +kernel, by decide +kernel⟩
abbrev s__law_right : Stmt := topS 19
abbrev N__law_right : List Str := ["_law_one", "_law_other", "_law_by", "_law_whole", "_law_both", "_law_only", "_law_mine", "_law_its", "_law_told", "_law_some"]
theorem sc__law_right : FnScope N__law_right ["_law_one", "_law_other", "_law_by"] (defScope s__law_right) := ⟨rfl, rfl, rfl, by decide +kernel, rfl, by decide +kernel, by decide +kernel⟩
abbrev s_law : Stmt := topS 20
abbrev N_law : List Str := ["_law_script", "_law_k", "_law_pot_here", "_law_many", "_law_one", "_law_other", "_law_first", "_law_last"]
theorem sc_law : FnScope N_law ["_law_script"] (defScope s_law) := ⟨rfl, rfl, rfl, by decide +kernel, rfl, by decide +kernel, by decide +kernel⟩
/-- what the top has left -/
structure Tx (K : PySem.W.Frag) (mg : Str → Option Value) : Prop where
  f_is_end : ∃ (f : Addr) (fd : FuncData), FnP K "is_end" "is_end" s_is_end f fd ∧ mg "is_end" = some (.ref f)
  f_is_pair : ∃ (f : Addr) (fd : FuncData), FnP K "is_pair" "is_pair" s_is_pair f fd ∧ mg "is_pair" = some (.ref f)
  f_is_position_set : ∃ (f : Addr) (fd : FuncData), FnP K "is_position_set" "is_position_set" s_is_position_set f fd ∧ mg "is_position_set" = some (.ref f)
  f_merged : ∃ (f : Addr) (fd : FuncData), FnP K "merged" "merged" s_merged f fd ∧ mg "merged" = some (.ref f)
  f_union : ∃ (f : Addr) (fd : FuncData), FnP K "union" "union" s_union f fd ∧ mg "union" = some (.ref f)
  f_common : ∃ (f : Addr) (fd : FuncData), FnP K "common" "common" s_common f fd ∧ mg "common" = some (.ref f)
  f_outside : ∃ (f : Addr) (fd : FuncData), FnP K "outside" "outside" s_outside f fd ∧ mg "outside" = some (.ref f)
  f_difference : ∃ (f : Addr) (fd : FuncData), FnP K "difference" "difference" s_difference f fd ∧ mg "difference" = some (.ref f)
  f_clipped : ∃ (f : Addr) (fd : FuncData), FnP K "clipped" "clipped" s_clipped f fd ∧ mg "clipped" = some (.ref f)
  f_size : ∃ (f : Addr) (fd : FuncData), FnP K "size" "size" s_size f fd ∧ mg "size" = some (.ref f)
  f_contains : ∃ (f : Addr) (fd : FuncData), FnP K "contains" "contains" s_contains f fd ∧ mg "contains" = some (.ref f)
  f__law_pot : ∃ (f : Addr) (fd : FuncData), FnP K "_law_pot" "_law_pot" s__law_pot f fd ∧ mg "_law_pot" = some (.ref f)
  f__law_take : ∃ (f : Addr) (fd : FuncData), FnP K "_law_take" "_law_take" s__law_take f fd ∧ mg "_law_take" = some (.ref f)
  f__law_of : ∃ (f : Addr) (fd : FuncData), FnP K "_law_of" "_law_of" s__law_of f fd ∧ mg "_law_of" = some (.ref f)
  f__law_great : ∃ (f : Addr) (fd : FuncData), FnP K "_law_great" "_law_great" s__law_great f fd ∧ mg "_law_great" = some (.ref f)
  f__law_moved : ∃ (f : Addr) (fd : FuncData), FnP K "_law_moved" "_law_moved" s__law_moved f fd ∧ mg "_law_moved" = some (.ref f)
  f__law_right : ∃ (f : Addr) (fd : FuncData), FnP K "_law_right" "_law_right" s__law_right f fd ∧ mg "_law_right" = some (.ref f)
  f_law : ∃ (f : Addr) (fd : FuncData), FnP K "law" "law" s_law f fd ∧ mg "law" = some (.ref f)
  c_PAIR : ∃ t, mg "PAIR" = some (.int 2 t)
  n_abs : mg "abs" = none
  n_all : mg "all" = none
  n_any : mg "any" = none
  n_bool : mg "bool" = none
  n_int : mg "int" = none
  n_isinstance : mg "isinstance" = none
  n_len : mg "len" = none
  n_max : mg "max" = none
  n_min : mg "min" = none
  n_range : mg "range" = none
  n_sorted : mg "sorted" = none
  n_sum : mg "sum" = none
  n_tuple : mg "tuple" = none
  n_zip : mg "zip" = none

end Co
local macro_rules | `(tactic| walk_at "od") => `(tactic| first
  | ((with_reducible show Co.OpD _ (PySem.binaryOp PySem.Operator.Add) _ _ _); first | refine Co.od_add ?_)
  | ((with_reducible show Co.OpD _ (PySem.binaryOp PySem.Operator.Sub) _ _ _); first | refine Co.od_sub ?_)
  | ((with_reducible show Co.OpD _ (PySem.binaryOp PySem.Operator.Mult) _ _ _); first | refine Co.od_mulR (by decide +kernel) (by decide +kernel) ?_ | refine Co.od_mulL (by decide +kernel) (by decide +kernel) ?_)
  | ((with_reducible show Co.OpD _ (PySem.binaryOp PySem.Operator.Mod) _ _ _); first | refine Co.od_mod (by decide +kernel) ?_)
  | ((with_reducible show Co.OpD _ (PySem.binaryOp PySem.Operator.FloorDiv) _ _ _); first | refine Co.od_div (by decide +kernel) (by decide +kernel) ?_)
  | ((with_reducible show Co.OpD _ (PySem.binaryOp PySem.Operator.Pow) _ _ _); first | refine Co.od_pow (by decide +kernel) (by decide +kernel) ?_)
  | ((with_reducible show Co.OpD _ (PySem.compareOp PySem.CmpOp.Lt) _ _ _); first | refine Co.od_lt ?_)
  | ((with_reducible show Co.OpD _ (PySem.compareOp PySem.CmpOp.LtE) _ _ _); first | refine Co.od_le ?_)
  | ((with_reducible show Co.OpD _ (PySem.compareOp PySem.CmpOp.Gt) _ _ _); first | refine Co.od_gt ?_)
  | ((with_reducible show Co.OpD _ (PySem.compareOp PySem.CmpOp.GtE) _ _ _); first | refine Co.od_ge ?_)
  | ((with_reducible show Co.OpD _ (PySem.compareOp PySem.CmpOp.Eq) _ _ _); first | refine Co.od_eqI ?_ | refine Co.od_eqS ?_)
  | ((with_reducible show Co.OpD _ (PySem.compareOp PySem.CmpOp.NotEq) _ _ _); first | refine Co.od_neI ?_ | refine Co.od_neS ?_)
  | ((with_reducible show Co.OpD _ (PySem.compareOp PySem.CmpOp.Is) _ _ _); first | refine Co.od_isN ?_)
  | ((with_reducible show Co.OpD _ (PySem.compareOp PySem.CmpOp.IsNot) _ _ _); first | refine Co.od_notN ?_)
  | ((with_reducible show Co.OpD _ (PySem.compareOp PySem.CmpOp.In) _ _ _); first | refine Co.od_in ?_))
local macro_rules | `(tactic| walk_at "ev") => `(tactic| first
  | ((with_reducible show Co.PEv _ _ _ _ (PySem.Expr.Name _ _) _); refine Co.ev_nm (h := ?_))
  | ((with_reducible show Co.PEv _ _ _ _ (PySem.Expr.Constant _ _ _) _); first | refine Co.ev_int ?_ | refine Co.ev_str ?_ | refine Co.ev_bl ?_ | refine Co.ev_non ?_)
  | ((with_reducible show Co.PEv _ _ _ _ (PySem.Expr.BinOp _ _ _ _) _); refine Co.ev_bin ?_)
  | ((with_reducible show Co.PEv _ _ _ _ (PySem.Expr.Compare _ [_] [_] _) _); refine Co.ev_cmp ?_)
  | ((with_reducible show Co.PEv _ _ _ _ (PySem.Expr.UnaryOp PySem.UnaryOp.USub _ _) _); refine Co.ev_neg ?_)
  | ((with_reducible show Co.PEv _ _ _ _ (PySem.Expr.UnaryOp PySem.UnaryOp.Not _ _) _); refine Co.ev_not ?_)
  | ((with_reducible show Co.PEv _ _ _ _ (PySem.Expr.Tuple _ _ _) _); refine Co.ev_tup ?_)
  | ((with_reducible show Co.PEv _ _ _ _ (PySem.Expr.List _ _) _); refine Co.ev_lst ?_)
  | ((with_reducible show Co.PEv _ _ _ _ (PySem.Expr.IfExp _ _ _ _) _); refine Co.ev_if ?_)
  | ((with_reducible show Co.PEv _ _ _ _ (PySem.Expr.Call (PySem.Expr.Name "len" _) _ _ _) _); refine Co.ev_callB (id := "len") (by assumption) ?_)
  | ((with_reducible show Co.PEv _ _ _ _ (PySem.Expr.Subscript _ (PySem.Expr.Slice _ _ _ _) _) _); fail)
  | ((with_reducible show Co.PEv _ (Co.potW _) _ _ (PySem.Expr.Subscript (PySem.Expr.Name _ _) (PySem.Expr.Constant _ _ _) _) _); first | refine Co.ev_pot 0 (by decide) (h := ?_) | refine Co.ev_pot 1 (by decide) (h := ?_) | refine Co.ev_pot 2 (by decide) (h := ?_))
  | ((with_reducible show Co.PEv _ _ _ _ (PySem.Expr.Subscript _ (PySem.Expr.Name _ _) _) _); refine Co.ev_ix ?_)
  | ((with_reducible show Co.PEv _ _ _ _ (PySem.Expr.Subscript _ (PySem.Expr.Constant _ _ _) _) _); refine Co.ev_ix ?_)
  | ((with_reducible show Co.PEv _ _ _ _ (PySem.Expr.Subscript _ (PySem.Expr.UnaryOp _ _ _) _) _); refine Co.ev_ix ?_))
local macro_rules | `(tactic| walk_at "go1") => `(tactic| first
  | ((with_reducible show Co.PEv _ _ _ _ _ _); walk_at "ev")
  | ((with_reducible show Co.PEb _ _ _ _ _ _); first | refine Co.eb_nm (h := ?_) | refine Co.eb ?_)
  | ((with_reducible show Co.PTv _ _ _ _ _ _); first
      | ((with_reducible show Co.PTv _ _ _ _ (PySem.Expr.Compare _ [_] [_] _) _); refine Co.tv_cmp ?_)
      | ((with_reducible show Co.PTv _ _ _ _ (PySem.Expr.UnaryOp PySem.UnaryOp.Not _ _) _); refine Co.tv_not ?_)
      | ((with_reducible show Co.PTv _ _ _ _ (PySem.Expr.BoolOp _ _ _) _); refine Co.tv_w ?_)
      | ((with_reducible show Co.PTv _ _ _ _ (PySem.Expr.Call _ _ _ _) _); refine Co.tv_val ?_)
      | ((with_reducible show Co.PTv _ _ _ _ (PySem.Expr.Name _ _) _); refine Co.tv_val ?_))
  | ((with_reducible show Co.OpD _ _ _ _ _); walk_at "od")
  | ((with_reducible show Co.CallD _ (PySem.Value.builtin "len") _ _); refine Co.cd_len rfl ?_)
  | ((with_reducible show Co.PAv _ _ _ _ [] _); refine Co.av_nil ?_)
  | ((with_reducible show Co.PAv _ _ _ _ (PySem.Expr.Starred _ _ :: _) _); refine Co.av_star ?_)
  | ((with_reducible show Co.PAv _ _ _ _ (_ :: _) _); refine Co.av_cons ?_)
  | ((with_reducible show Co.PAb _ _ _ _ [] _); refine Co.ab_nil ?_)
  | ((with_reducible show Co.PAb _ _ _ _ (_ :: _) _); refine Co.ab_cons ?_)
  | ((with_reducible show Co.POv _ _ _ _ none _); refine Co.ov_none ?_)
  | ((with_reducible show Co.POv _ _ _ _ (some _) _); refine Co.ov_some ?_)
  | ((with_reducible show Co.PGv _ _ _ _ (PySem.Expr.Name _ _) _ _ _); fail)
  | ((with_reducible show ∃ _, _ = _ ∧ _); refine ⟨_, rfl, ?_⟩)
  | ((with_reducible show ∃ (i : Int) (z : Co.D), _ = _ ∧ L2.atI _ _ = some _ ∧ _); refine ⟨_, _, rfl, rfl, ?_⟩)
  | ((with_reducible show _ ≤ PySem.sizeLine ∧ _); refine ⟨Co.sz (Nat.le_of_ble_eq_true rfl), ?_⟩))
local macro_rules | `(tactic| walk_at "go") => `(tactic| repeat (walk_at "go1"))
local macro_rules | `(tactic| walk_at "gv") => `(tactic| repeat (first
  | ((with_reducible show Co.PGw _ _ _ _ (PySem.Expr.Tuple _ _ _) _ _); refine Co.gw_tup ?_)
  | ((with_reducible show Co.PGw _ _ _ _ (PySem.Expr.Name _ _) _ _); refine Co.gw_nm ?_)
  | ((with_reducible show Co.PGsw _ _ _ _ [] _ _); refine Co.gsw_nil ?_)
  | ((with_reducible show Co.PGsw _ _ _ _ (_ :: _) _ _); refine Co.gsw_cons ?_)
  | ((with_reducible show Co.PGv _ _ _ _ (PySem.Expr.Tuple _ _ _) _ _ _); refine Co.gv_tup ?_)
  | ((with_reducible show Co.PGv _ _ _ _ (PySem.Expr.Name _ _) _ _ _); refine Co.gv_nm ?_)
  | ((with_reducible show Co.PGsv _ _ _ _ [] _ _ _); refine Co.gsv_nil ?_)
  | ((with_reducible show Co.PGsv _ _ _ _ (_ :: _) _ _ _); refine Co.gsv_cons ?_)))

namespace Co
open PySem PySem.Spec PyProof.Rows L2
/-! ### position sets as data -/
abbrev PSet := List (Int × Int)
def setD (s : PSet) : D := .tup (s.map pD)
def psize (s : PSet) : Int := (s.map fun p => p.2 - p.1 + 1).sum
/-- a pair of ends -/
def okP (p : Int × Int) : Prop := 0 ≤ p.1 ∧ p.1 ≤ p.2
instance (p : Int × Int) : Decidable (okP p) := inferInstanceAs (Decidable (_ ∧ _))
def gapB : PSet → Bool
  | p :: q :: r => decide (p.2 + 1 < q.1) && gapB (q :: r)
  | _ => true
end Co

namespace Co
open PySem PySem.Spec PyProof.Rows L2
section
variable {P : Program} {w : World} {K : PySem.W.Frag} {mg : Str → Option Value} {base : Heap}
theorem g_is_end (T : Tx K mg) : Gd P w K mg base "is_end" 1 (SpF (fun i : Int => [.int i]) (fun _ => True) fun i d => d = .bl (decide (0 ≤ i))) := by
  obtain ⟨f, fd, F, hm⟩ := T.f_is_end
  refine gd_of F (ok_def F sc_is_end (fun _ => rfl) fun s _ cdv A outer sh H E hr => ?_) hm fun _ _ _ _ _ _ us hl => match us, hl with | [_], _ => rfl
  refine ss_one (s_ret (ev_and (ev_isi (fun _ => kit_int) T.n_isinstance T.n_int ?_)))
  walk_at "go"
  refine ⟨rfl, _, rfl, fun _ => ev_and (ev_not (ev_isi (fun _ => kit_bool) T.n_isinstance T.n_bool ?_)), fun z => (by cases z)⟩
  walk_at "go"
  refine ⟨rfl, _, rfl, _, rfl, fun _ => ev_one ?_, fun z => (by cases z)⟩
  walk_at "go"
  rfl
end
end Co

namespace Co
open PySem PySem.Spec PyProof.Rows L2
section
variable {P : Program} {w : World} {K : PySem.W.Frag} {mg : Str → Option Value} {base : Heap}
theorem g_is_pair (T : Tx K mg) : Gd P w K mg base "is_pair" 2 (SpF (fun p : Int × Int => [pD p]) (fun _ => True) fun p d => d = .bl (decide (okP p))) := by
  obtain ⟨f, fd, F, hm⟩ := T.f_is_pair
  refine gd_of F (ok_def F sc_is_pair (fun _ => rfl) fun p _ cdv A outer sh H E hr => ?_) hm fun _ _ _ _ _ _ us hl => match us, hl with | [_], _ => rfl
  have nd := sc_is_pair.nd
  refine ss_cons (s_if (tv_w (wv_or (tv_not (tv_val (ev_isi (fun _ => kit_tup) T.n_isinstance T.n_tuple ?_))))))
  walk_at "go"
  refine ⟨rfl, _, rfl, fun _ => wv_or (tv_cmp (eb (ev_callB (id := "len") T.n_len ?_))), fun z => (by cases z)⟩
  walk_at "go"
  obtain ⟨t, ht⟩ := T.c_PAIR
  refine ev_glob ht (.int 2 t) (od_neI ⟨_, rfl, fun _ => wv_or1 (tv_not (tv_val (ev_callB (id := "all") T.n_all (ab_cons (eb ?_))))), fun z => (by cases z)⟩)
  refine ev_lc [("end", 1)] _ (lcM [p.1, p.2] D.int (fun i => .bl (decide (0 ≤ i))) (iv_tup ?_) (fun i hi _ _ _ _ _ => ?_) ?_)
  · walk_at "go"
    exact fun hz => ⟨rfl, rfl, hz⟩
  · walk_at "gv"
    refine ⟨rfl, rfl, fun _ _ _ _ _ => ev_call (g_is_end T) (hr.mono (by decide)) ?_⟩
    walk_at "go"
    exact ⟨trivial, fun d hd => ⟨hd, rfl⟩⟩
  · walk_at "go"
    refine cd_all (ns := [decide (0 ≤ p.1), decide (0 ≤ p.2)]) rfl ⟨_, rfl, fun hc => ss_one (s_ret ?_), fun hc => ss_nil (ss_one (s_ret ?_))⟩
    · walk_at "go"
      have : ¬ okP p := by simp at hc; unfold okP; omega
      rw [decide_eq_false this]
    · walk_at "go"
      have : okP p ↔ p.1 ≤ p.2 := by simp at hc; unfold okP; omega
      show D.bl _ = D.bl _
      rw [decide_eq_decide.mpr this]
end
end Co

namespace Co
open PySem PySem.Spec PyProof.Rows L2
section
variable {P : Program} {w : World} {K : PySem.W.Frag} {mg : Str → Option Value} {base : Heap}
theorem g_size (T : Tx K mg) : Gd P w K mg base "size" 1 (SpF (fun s : PSet => [setD s]) (fun _ => True) fun s d => d = .int (psize s)) := by
  obtain ⟨f, fd, F, hm⟩ := T.f_size
  refine gd_of F (ok_def F sc_size (fun _ => rfl) fun s _ cdv A outer sh H E hr => ?_) hm fun _ _ _ _ _ _ us hl => match us, hl with | [_], _ => rfl
  have nd := sc_size.nd
  refine ss_one (s_ret (ev_callB (id := "sum") T.n_sum (ab_cons (eb ?_))))
  refine ev_lc [("first", 1), ("last", 2)] _ (lcM s pD (fun p => .int (p.2 - p.1 + 1)) (iv_tup ?_) (fun p hp _ _ _ _ _ => ?_) ?_)
  · walk_at "go"
    exact fun hz => ⟨rfl, rfl, hz⟩
  · walk_at "gv"
    refine ⟨rfl, rfl, fun _ _ _ _ _ => ?_⟩
    walk_at "go"
    exact ⟨rfl, rfl⟩
  · walk_at "go"
    rw [show (s.map fun p => D.int (p.2 - p.1 + 1)) = (s.map fun p => p.2 - p.1 + 1).map D.int by rw [List.map_map]; rfl]
    exact cd_sum rfl rfl
end
end Co

namespace Co
open PySem PySem.Spec PyProof.Rows L2
/-- a position set -/
def canonB (s : PSet) : Bool := s.all (fun p => decide (okP p)) && (s.zip (s.drop 1)).all fun q => decide (q.1.2 + 1 < q.2.1)
theorem zipD_map : ∀ (s t : PSet), zipD (s.map pD) (t.map pD) = (s.zip t).map fun q => D.tup [pD q.1, pD q.2]
  | [], t => by simp [zipD]
  | _ :: _, [] => by simp [zipD]
  | p :: s, q :: t => by simp [zipD, zipD_map s t]
theorem cutD_one (ds : List D) : cutD ds (some 1) none = ds.drop 1 := by
  unfold cutD
  rw [show HT.sIx ds.length 0 (some 1) = min 1 ds.length from HT.sIx_nat ds.length 0 1, HT.sIx_none]
  cases ds with
  | nil => rfl
  | cons x r =>
    rw [show min 1 (x :: r).length = 1 by rw [List.length_cons]; omega]
    show List.take ((x :: r).length - 1) r = r
    rw [List.length_cons, Nat.add_sub_cancel]
    exact List.take_length
section
variable {P : Program} {w : World} {K : PySem.W.Frag} {mg : Str → Option Value} {base : Heap}
theorem g_is_position_set (T : Tx K mg) : Gd P w K mg base "is_position_set" 3 (SpF (fun s : PSet => [setD s]) (fun _ => True) fun s d => d = .bl (canonB s)) := by
  obtain ⟨f, fd, F, hm⟩ := T.f_is_position_set
  refine gd_of F (ok_def F sc_is_position_set (fun _ => rfl) fun s _ cdv A outer sh H E hr => ?_) hm fun _ _ _ _ _ _ us hl => match us, hl with | [_], _ => rfl
  have nd := sc_is_position_set.nd
  refine ss_cons (s_if (tv_w (wv_or (tv_not (tv_val (ev_isi (fun _ => kit_tup) T.n_isinstance T.n_tuple ?_))))))
  walk_at "go"
  refine ⟨rfl, _, rfl, fun _ => wv_or1 (tv_not (tv_val (ev_callB (id := "all") T.n_all (ab_cons (eb ?_))))), fun z => (by cases z)⟩
  refine ev_lc [("pair", 1)] _ (lcM s pD (fun p => .bl (decide (okP p))) (iv_tup ?_) (fun p hp _ _ _ _ _ => ?_) ?_)
  · walk_at "go"
    exact fun hz => ⟨rfl, rfl, hz⟩
  · walk_at "gv"
    refine ⟨rfl, rfl, fun _ _ _ _ _ => ev_call (g_is_pair T) (hr.mono (by decide)) ?_⟩
    walk_at "go"
    exact ⟨trivial, fun d hd => ⟨hd, rfl⟩⟩
  · walk_at "go"
    rw [show (s.map fun p => D.bl (decide (okP p))) = (s.map fun p => decide (okP p)).map D.bl by rw [List.map_map]; rfl]
    refine cd_all rfl ⟨_, rfl, fun hc => ss_one (s_ret ?_), fun hc => ss_nil (ss_one (s_ret (ev_callB (id := "all") T.n_all (ab_cons (eb ?_)))))⟩
    · walk_at "go"
      rw [List.all_map] at hc
      have : s.all (fun p => decide (okP p)) = false := by simpa using hc
      show D.bl false = D.bl (canonB s)
      unfold canonB
      rw [this]; rfl
    · rw [List.all_map] at hc
      have ha : s.all (fun p => decide (okP p)) = true := by
        have : (!s.all (fun p => decide (okP p))) = false := hc
        simpa using this
      refine ev_lc [("pair", 1), ("later", 2)] _ (lcM (s.zip (s.drop 1)) (fun q => D.tup [pD q.1, pD q.2]) (fun q => .bl (decide (q.1.2 + 1 < q.2.1))) (iv_zip T.n_zip ?_) (fun q hq _ _ _ _ _ => ?_) ?_)
      · refine (PEv.sized ?_)
        walk_at "go"
        refine fun hz => ⟨_, rfl, ev_sliceT ?_⟩
        walk_at "go"
        refine ⟨.inr ⟨rfl, rfl⟩, rfl, ?_, ?_⟩
        · rw [cutD_one, ← List.map_drop, zipD_map]
        · rw [zipD_len]
          exact Nat.le_trans (Nat.min_le_left _ _) (hz _ rfl)
      · walk_at "gv"
        refine ⟨rfl, rfl, fun _ _ _ _ _ => ?_⟩
        walk_at "go"
        exact ⟨rfl, rfl⟩
      · walk_at "go"
        rw [show ((s.zip (s.drop 1)).map fun q => D.bl (decide (q.1.2 + 1 < q.2.1))) = ((s.zip (s.drop 1)).map fun q => decide (q.1.2 + 1 < q.2.1)).map D.bl by rw [List.map_map]; rfl]
        refine cd_all rfl ?_
        show D.bl _ = D.bl (canonB s)
        rw [List.all_map]
        unfold canonB
        rw [ha]; rfl
end
end Co

namespace Co
open PySem PySem.Spec PyProof.Rows L2
def mergeStep (found : PSet) (p : Int × Int) : PSet := match found.getLast? with
  | none => [p]
  | some q => if p.1 ≤ q.2 + 1 then found.dropLast ++ [(q.1, max q.2 p.2)] else found ++ [p]
def pmerge (s : PSet) : PSet := (sortP s).foldl mergeStep []
theorem mergeStep_len (f : PSet) (p : Int × Int) : (mergeStep f p).length ≤ f.length + 1 := by
  unfold mergeStep
  split
  · simp
  · split
    · rw [List.length_append, List.length_dropLast]; show f.length - 1 + 1 ≤ _; omega
    · rw [List.length_append]; exact Nat.le_refl _
theorem mergeFold_len : ∀ (xs f : PSet), (xs.foldl mergeStep f).length ≤ f.length + xs.length
  | [], f => by simp
  | x :: xs, f => by
    rw [List.foldl_cons, List.length_cons]
    have h1 := mergeFold_len xs (mergeStep f x)
    have h2 := mergeStep_len f x
    omega
section
variable {P : Program} {w : World} {K : PySem.W.Frag} {mg : Str → Option Value} {base : Heap}
theorem g_merged (T : Tx K mg) : Gd P w K mg base "merged" 1 (SpF (fun s : PSet => [.lst (s.map pD)]) (fun _ => True) fun s d => d = setD (pmerge s)) := by
  obtain ⟨f, fd, F, hm⟩ := T.f_merged
  refine gd_of F (ok_def F sc_merged (fun _ => rfl) fun s _ cdv A outer sh H E hr => ?_) hm fun _ _ _ _ _ _ us hl => match us, hl with | [_], _ => rfl
  have nd := sc_merged.nd
  -- found = []
  refine ss_cons (s_own 1 (ef_lst (av_nil ⟨sz (by decide), fun p => ss_cons ?_⟩)))
  -- for first, last in sorted(pairs)
  refine s_for (fun i ρ _ => ∃ y z, ρ = [.val (.lst (s.map pD)), .own p ((((sortP s).take i).foldl mergeStep []).map pD), y, z]) (iv_list (ev_callB (id := "sorted") T.n_sorted ?_))
  walk_at "go"
  refine CallF.d (cf_sortP rfl rfl ⟨_, rfl, fun hz => ⟨⟨_, _, rfl⟩, fun i d ρ2 g2 hd hi => ?_, fun ρ2 g2 hi => ?_⟩⟩)
  · obtain ⟨y, z, rfl⟩ := hi
    rw [List.getElem?_map] at hd
    cases ei : (sortP s)[i]? with
    | none => rw [ei] at hd; cases hd
    | some q =>
      rw [ei] at hd
      cases hd
      have hlen := mergeFold_len ((sortP s).take i) []
      have hi := (List.getElem?_eq_some_iff.mp ei).1
      rw [List.length_map] at hz
      rw [List.length_take, List.length_nil, Nat.zero_add] at hlen
      have tk : (sortP s).take (i + 1) = (sortP s).take i ++ [q] := by rw [List.take_add_one, ei]; rfl
      have nxt : ((sortP s).take (i + 1)).foldl mergeStep [] = mergeStep (((sortP s).take i).foldl mergeStep []) q := by rw [tk, List.foldl_append]; rfl
      generalize hfs : ((sortP s).take i).foldl mergeStep [] = fs at *
      walk_at "gv"
      refine ss_one (s_if (tv_w (wv_and ?_)))
      walk_at "go"
      -- found != []
      refine od_neG hr.units (Fit.setL (Nat.le_refl 2)) (Fit.setL (s := []) (Nat.le_refl 2)) (nb_set fs) rfl (p := fs = []) ⟨fun h => by simpa using h, fun h => by rw [h]; rfl⟩ (by decide) ?_
      walk_at "go"
      rcases List.eq_nil_or_concat fs with rfl | ⟨fs0, r, rfl⟩
      · refine ⟨fun h => (by simp at h), fun _ => ⟨fun h => (by cases h), fun _ => ss_one (s_append 1 rfl ?_)⟩⟩
        walk_at "go"
        rw [nxt]
        exact ⟨by show 0 < sizeLine; decide, _, _, rfl⟩
      · have gl : (fs0 ++ [r]).getLast? = some r := List.getLast?_concat
        have at1 : atI ((fs0 ++ [r]).map pD) (-1) = some (pD r) := by rw [List.map_append]; exact atI_last _ _
        rw [List.concat_eq_append] at *
        refine ⟨fun _ => wv_and1 (tv_cmp ?_), fun h => by simp at h⟩
        walk_at "go"
        refine ⟨_, _, rfl, at1, ?_⟩
        walk_at "go"
        refine ⟨fun hc => ss_one (s_setix 1 rfl ?_), fun hc => ss_one (s_append 1 rfl ?_)⟩
        · -- found[-1] = (found[-1][0], max(found[-1][1], last))
          walk_at "go"
          refine ⟨_, _, rfl, at1, ?_⟩
          walk_at "go"
          refine ev_callB (id := "max") T.n_max ?_
          walk_at "go"
          refine ⟨_, _, rfl, at1, ?_⟩
          walk_at "go"
          refine cd_max2 rfl ?_
          walk_at "go"
          refine ⟨_, fs0.length, rfl, ?_, ?_⟩
          · unfold ixN
            rw [List.length_map, List.length_append]
            simp
            omega
          · rw [nxt]
            have e : mergeStep (fs0 ++ [r]) q = fs0 ++ [(r.1, max r.2 q.2)] := by
              unfold mergeStep
              rw [gl]
              simp only
              rw [if_pos (by simpa using hc), List.dropLast_concat]
            have e2 : ((fs0 ++ [r]).map pD).set fs0.length (D.tup [D.int r.1, D.int (max r.2 q.2)]) = (fs0 ++ [(r.1, max r.2 q.2)]).map pD := by
              rw [List.map_append, List.map_append, List.set_append_right _ _ (by simp)]
              simp [pD]
            rw [e, ← e2]
            exact ⟨_, _, rfl⟩
        · walk_at "go"
          refine ⟨by rw [List.length_map]; omega, ?_⟩
          rw [nxt]
          have e : mergeStep (fs0 ++ [r]) q = fs0 ++ [r] ++ [q] := by
            unfold mergeStep
            rw [gl]
            simp only
            rw [if_neg (by simpa using hc)]
          rw [e, List.map_append, List.map_append]
          exact ⟨_, _, rfl⟩
  · obtain ⟨y, z, rfl⟩ := hi
    rw [List.length_map, List.take_length]
    refine ss_one (s_ret (ev_callTy (T := "tuple") T.n_tuple ?_))
    walk_at "go"
    exact cd_tuple rfl rfl
end
end Co

namespace Co
open PySem PySem.Spec PyProof.Rows L2
section
variable {P : Program} {w : World} {K : PySem.W.Frag} {mg : Str → Option Value} {base : Heap}
theorem g_union (T : Tx K mg) : Gd P w K mg base "union" 2 (SpF (fun s : PSet × PSet => [setD s.1, setD s.2]) (fun s => s.1.length + s.2.length ≤ sizeLine) fun s d => d = setD (pmerge (s.1 ++ s.2))) := by
  obtain ⟨f, fd, F, hm⟩ := T.f_union
  refine gd_of F (ok_def F sc_union (fun _ => rfl) fun s hs cdv A outer sh H E hr => ?_) hm fun _ _ _ _ _ _ us hl => match us, hl with | [_, _], _ => rfl
  refine ss_one (s_ret (ev_call (g_merged T) (hr.mono (by decide)) ?_))
  walk_at "go"
  refine ⟨by rw [List.append_nil, List.length_append, List.length_map, List.length_map]; exact hs, ?_⟩
  walk_at "go"
  exact ⟨s.1 ++ s.2, by rw [List.append_nil, List.map_append], trivial, fun d hd => hd⟩
end
end Co

namespace Co
open PySem PySem.Spec PyProof.Rows L2
def pclip (s : PSet) (a b : Int) : PSet := (s.map fun p => (max p.1 a, min p.2 b)).filter fun p => decide (p.1 ≤ p.2)
section
variable {P : Program} {w : World} {K : PySem.W.Frag} {mg : Str → Option Value} {base : Heap}
theorem g_clipped (T : Tx K mg) : Gd P w K mg base "clipped" 1 (SpF (fun s : PSet × Int × Int => [setD s.1, .int s.2.1, .int s.2.2]) (fun _ => True) fun s d => d = setD (pclip s.1 s.2.1 s.2.2)) := by
  obtain ⟨f, fd, F, hm⟩ := T.f_clipped
  refine gd_of F (ok_def F sc_clipped (fun _ => rfl) fun s hs cdv A outer sh H E hr => ?_) hm fun _ _ _ _ _ _ us hl => match us, hl with | [_, _, _], _ => rfl
  have nd := sc_clipped.nd
  refine ss_cons (s_setLc 3 [("low", 4), ("high", 5)] _ (lcM s.1 pD (fun p => pD (max p.1 s.2.1, min p.2 s.2.2)) (iv_tup ?_) (fun p hp _ _ _ _ _ => ?_) ?_))
  · walk_at "go"
    exact fun hz => ⟨rfl, rfl, hz⟩
  · walk_at "gv"
    refine ⟨rfl, rfl, fun _ _ _ _ _ => ev_tup (av_cons (ev_callB (id := "max") T.n_max ?_))⟩
    walk_at "go"
    refine cd_max2 rfl (av_cons (ev_callB (id := "min") T.n_min ?_))
    walk_at "go"
    refine cd_min2 rfl ?_
    walk_at "go"
    exact ⟨rfl, rfl⟩
  · refine ss_one (s_ret (ev_callTy (T := "tuple") T.n_tuple (ab_cons (eb ?_))))
    refine ev_lc [("low", 4), ("high", 5)] _ (lcD (s.1.map fun p => (max p.1 s.2.1, min p.2 s.2.2)) pD pD (fun p => decide (p.1 ≤ p.2)) (iv_list ?_) (fun p hp _ _ _ _ _ => ?_) ?_)
    · walk_at "go"
      exact fun hz => ⟨rfl, by rw [List.map_map]; rfl, hz⟩
    · walk_at "gv"
      refine ⟨rfl, rfl, fun _ _ _ _ _ => tsv_one ?_⟩
      walk_at "go"
      refine ⟨rfl, rfl, fun _ _ _ _ _ _ => ?_⟩
      walk_at "go"
      exact ⟨rfl, rfl⟩
    · walk_at "go"
      exact cd_tuple rfl rfl
end
end Co

namespace Co
open PySem PySem.Spec PyProof.Rows L2
def pmem (s : PSet) (x : Int) : Prop := ∃ p ∈ s, p.1 ≤ x ∧ x ≤ p.2
instance (s : PSet) (x : Int) : Decidable (pmem s x) := inferInstanceAs (Decidable (∃ p ∈ s, _ ∧ _))
section
variable {P : Program} {w : World} {K : PySem.W.Frag} {mg : Str → Option Value} {base : Heap}
theorem g_contains (T : Tx K mg) : Gd P w K mg base "contains" 2 (SpF (fun s : PSet × Int => [setD s.1, .int s.2]) (fun s => (∀ p ∈ s.1, 0 ≤ p.1)) fun s d => d = .bl (decide (pmem s.1 s.2))) := by
  obtain ⟨f, fd, F, hm⟩ := T.f_contains
  refine gd_of F (ok_def F sc_contains (fun _ => rfl) fun s hs cdv A outer sh H E hr => ?_) hm fun _ _ _ _ _ _ us hl => match us, hl with | [_, _], _ => rfl
  have nd := sc_contains.nd
  refine ss_one (s_ret (ev_and (ev_call (g_is_end T) (hr.mono (by decide)) ?_)))
  walk_at "go"
  refine ⟨trivial, fun d hd => ⟨_, hd, fun _ => ev_one (ev_callB (id := "any") T.n_any (ab_cons (eb ?_))), fun z => ?_⟩⟩
  · refine ev_lc [("first", 2), ("last", 3)] _ (lcM s.1 pD (fun p => .bl (decide (p.1 ≤ s.2) && decide (s.2 ≤ p.2))) (iv_tup ?_) (fun p hp _ _ _ _ _ => ?_) ?_)
    · walk_at "go"
      exact fun hz => ⟨rfl, rfl, hz⟩
    · walk_at "gv"
      refine ⟨rfl, rfl, fun _ _ _ _ _ => ev_chain op_le op_le ?_⟩
      walk_at "go"
      refine ⟨fun h => ?_, fun h => ?_⟩
      · walk_at "go"
        rw [h]
        exact ⟨rfl, rfl⟩
      · rw [h]
        exact ⟨rfl, rfl⟩
    · walk_at "go"
      have e : (s.1.map fun p => D.bl (decide (p.1 ≤ s.2) && decide (s.2 ≤ p.2))) = (s.1.map fun p => decide (p.1 ≤ s.2) && decide (s.2 ≤ p.2)).map D.bl := by rw [List.map_map]; rfl
      rw [e]
      refine cd_any rfl ?_
      show D.bl _ = D.bl _
      congr 1
      rw [Bool.eq_iff_iff, decide_eq_true_iff, List.any_map]
      simp [pmem]
  · show D.bl false = D.bl _
    have n : ¬ pmem s.1 s.2 := fun ⟨p, hp, h1, h2⟩ => by
      have := hs p hp
      simp at z; omega
    rw [decide_eq_false n]
end
end Co

namespace Co
open PySem PySem.Spec PyProof.Rows L2
def outStep (st : PSet × Int) (p : Int × Int) : PSet × Int := (st.1 ++ [(st.2, p.1 - 1)], p.2 + 1)
def poutRaw (s : PSet) (a b : Int) : PSet := (fun st : PSet × Int => st.1 ++ [(st.2, b)]) ((pclip s a b).foldl outStep ([], a))
def pout (s : PSet) (a b : Int) : PSet := (poutRaw s a b).filter fun p => decide (p.1 ≤ p.2)
theorem outFold_len : ∀ (l : PSet) (st : PSet × Int), (l.foldl outStep st).1.length = st.1.length + l.length
  | [], st => by simp
  | p :: l, st => by rw [List.foldl_cons, outFold_len l, List.length_cons]; simp [outStep]; omega
theorem pclip_len (s : PSet) (a b : Int) : (pclip s a b).length ≤ s.length := Nat.le_trans (List.length_filter_le _ _) (by rw [List.length_map]; exact Nat.le_refl _)
section
variable {P : Program} {w : World} {K : PySem.W.Frag} {mg : Str → Option Value} {base : Heap}
theorem g_outside (T : Tx K mg) : Gd P w K mg base "outside" 2 (SpF (fun s : PSet × Int × Int => [setD s.1, .int s.2.1, .int s.2.2]) (fun s => s.1.length < sizeLine) fun s d => d = .lst ((pout s.1 s.2.1 s.2.2).map pD)) := by
  obtain ⟨f, fd, F, hm⟩ := T.f_outside
  refine gd_of F (ok_def F sc_outside (fun _ => rfl) fun s hs cdv A outer sh H E hr => ?_) hm fun _ _ _ _ _ _ us hl => match us, hl with | [_, _, _], _ => rfl
  have nd := sc_outside.nd
  have hlen := pclip_len s.1 s.2.1 s.2.2
  refine ss_cons (s_own 3 (ef_lst (av_nil ⟨sz (by decide), fun p => ss_cons ?_⟩)))
  refine s_for (fun i ρ _ => ∃ y z u, ρ = [.val (setD s.1), .val (.int (((pclip s.1 s.2.1 s.2.2).take i).foldl outStep ([], s.2.1)).2), .val (.int s.2.2), .own p ((((pclip s.1 s.2.1 s.2.2).take i).foldl outStep ([], s.2.1)).1.map pD), y, z, u]) (iv_tup (ev_call (g_clipped T) (hr.mono (by decide)) ?_))
  walk_at "go"
  refine ⟨trivial, fun d hd => ⟨_, hd, fun hz => ⟨⟨_, _, _, rfl⟩, fun i d ρ2 g2 hd hi => ?_, fun ρ2 g2 hi => ?_⟩⟩⟩
  · obtain ⟨y, z, u, rfl⟩ := hi
    rw [List.getElem?_map] at hd
    cases ei : (pclip s.1 s.2.1 s.2.2)[i]? with
    | none => rw [ei] at hd; cases hd
    | some q =>
      rw [ei] at hd
      cases hd
      have hi := (List.getElem?_eq_some_iff.mp ei).1
      have tk : (pclip s.1 s.2.1 s.2.2).take (i + 1) = (pclip s.1 s.2.1 s.2.2).take i ++ [q] := by rw [List.take_add_one, ei]; rfl
      have hl2 := outFold_len ((pclip s.1 s.2.1 s.2.2).take i) ([], s.2.1)
      rw [tk, List.foldl_append]
      rw [List.length_take, List.length_nil, Nat.zero_add] at hl2
      generalize hst : ((pclip s.1 s.2.1 s.2.2).take i).foldl outStep ([], s.2.1) = st at *
      walk_at "gv"
      refine ss_cons (s_append 3 rfl ?_)
      walk_at "go"
      refine ⟨by rw [List.length_map]; omega, ss_one (s_set 1 ?_)⟩
      walk_at "go"
      simp only [List.foldl_cons, List.foldl_nil, outStep, List.map_append]
      exact ⟨_, _, _, rfl⟩
  · obtain ⟨y, z, u, rfl⟩ := hi
    rw [List.length_map, List.take_length]
    have hl2 := outFold_len (pclip s.1 s.2.1 s.2.2) ([], s.2.1)
    rw [List.length_nil, Nat.zero_add] at hl2
    refine ss_cons (s_append 3 rfl ?_)
    walk_at "go"
    refine ⟨by rw [List.length_map]; omega, ss_freeze 3 rfl (ss_forget 4 (ss_forget 5 (ss_forget 6 (ss_one (s_ret ?_)))))⟩
    refine ev_lc [("pair", 6)] _ (lcD (poutRaw s.1 s.2.1 s.2.2) pD pD (fun p => decide (p.1 ≤ p.2)) (iv_list ?_) (fun p hp _ _ _ _ _ => ?_) ?_)
    · walk_at "go"
      exact fun hz => ⟨rfl, by rw [poutRaw, List.map_append]; rfl, hz⟩
    · walk_at "gv"
      refine ⟨rfl, rfl, fun _ _ _ _ _ => tsv_one ?_⟩
      walk_at "go"
      refine ⟨rfl, rfl, fun _ _ _ _ _ _ => ?_⟩
      walk_at "go"
      exact ⟨rfl, rfl⟩
    · rfl
end
end Co

namespace Co
open PySem PySem.Spec PyProof.Rows L2
/-- ends rise -/
def Asc (s : PSet) : Prop := (∀ p ∈ s, p.1 ≤ p.2) ∧ s.Pairwise fun p q => p.2 < q.1
/-- the first pair from at on that ends at first or behind -/
def skipTo (o : PSet) (at_ : Nat) (first : Int) : Nat := at_ + ((o.drop at_).takeWhile fun q => decide (q.2 < first)).length
def meetRun (o : PSet) (at_ : Nat) (p : Int × Int) : PSet := ((o.drop at_).takeWhile fun q => decide (q.1 ≤ p.2)).map fun q => (max p.1 q.1, min p.2 q.2)
def comStep (o : PSet) (st : PSet × Nat) (p : Int × Int) : PSet × Nat := (st.1 ++ meetRun o (skipTo o st.2 p.1) p, skipTo o st.2 p.1)
def pcommon (s o : PSet) : PSet := pmerge (s.foldl (comStep o) ([], 0)).1
theorem skipTo_le (o : PSet) (a : Nat) (f : Int) (h : a ≤ o.length) : a ≤ skipTo o a f ∧ skipTo o a f ≤ o.length := by
  unfold skipTo
  have := (List.takeWhile_sublist (l := o.drop a) (fun q => decide (q.2 < f))).length_le
  rw [List.length_drop] at this
  omega
theorem tw_lt {α : Type} {f : α → Bool} : ∀ {l : List α} {i : Nat}, i < (l.takeWhile f).length → ∃ x, l[i]? = some x ∧ f x = true
  | [], i, h => by simp at h
  | x :: l, i, h => by
    rw [List.takeWhile_cons] at h
    cases hf : f x with
    | false => rw [hf] at h; simp at h
    | true =>
      rw [hf] at h
      cases i with
      | zero => exact ⟨x, rfl, hf⟩
      | succ i => exact tw_lt (l := l) (i := i) (by simpa using h)
theorem tw_eq {α : Type} {f : α → Bool} : ∀ {l : List α} {x : α}, l[(l.takeWhile f).length]? = some x → f x = false
  | [], x, h => by simp at h
  | y :: l, x, h => by
    rw [List.takeWhile_cons] at h
    cases hf : f y with
    | false => rw [hf] at h; simp at h; rw [← h]; exact hf
    | true => rw [hf] at h; simp at h; exact tw_eq (l := l) h
theorem tw_dec {α : Type} {f : α → Bool} {l : List α} {k : Nat} {x : α} (hk : k ≤ (l.takeWhile f).length) (hx : l[k]? = some x) : decide (k < (l.takeWhile f).length) = f x := by
  rcases Nat.lt_or_ge k (l.takeWhile f).length with h | h
  · obtain ⟨y, e1, e2⟩ := tw_lt h
    rw [hx] at e1; cases e1
    rw [decide_eq_true h, e2]
  · have e : k = (l.takeWhile f).length := by omega
    rw [decide_eq_false (by omega), show f x = false from tw_eq (by rw [← e]; exact hx)]
theorem tw_snoc {α : Type} {f : α → Bool} : ∀ {l : List α} {i : Nat} {x : α}, i < (l.takeWhile f).length → l[i]? = some x → (l.takeWhile f).take (i + 1) = (l.takeWhile f).take i ++ [x]
  | [], i, x, h, _ => by simp at h
  | y :: l, i, x, h, hx => by
    rw [List.takeWhile_cons] at h ⊢
    cases hf : f y with
    | false => rw [hf] at h; simp at h
    | true =>
      rw [hf] at h
      simp only [if_true] at h ⊢
      cases i with
      | zero => simp at hx; subst hx; simp
      | succ i =>
        rw [List.take_succ_cons, List.take_succ_cons, tw_snoc (i := i) (by simpa using h) (by simpa using hx)]
        rfl
theorem tw_run {b c : Int} (h : b < c) : ∀ {l : PSet}, Asc l → (l.takeWhile fun q => decide (q.1 ≤ b)).length ≤ (l.takeWhile fun q => decide (q.2 < c)).length + 1
  | [], _ => by simp
  | x :: l, hl => by
    have hl' : Asc l := ⟨fun p hp => hl.1 p (List.mem_cons_of_mem _ hp), (List.pairwise_cons.mp hl.2).2⟩
    rw [List.takeWhile_cons, List.takeWhile_cons]
    by_cases h1 : x.1 ≤ b
    · rw [decide_eq_true h1]
      by_cases h2 : x.2 < c
      · rw [decide_eq_true h2]
        simp only [if_true, List.length_cons]
        have := tw_run h hl'
        omega
      · rw [decide_eq_false h2]
        have e : l.takeWhile (fun q => decide (q.1 ≤ b)) = [] := by
          cases l with
          | nil => rfl
          | cons y l =>
            have hy := (List.pairwise_cons.mp hl.2).1 y List.mem_cons_self
            rw [List.takeWhile_cons, decide_eq_false (by omega)]
            rfl
        simp [e]
    · rw [decide_eq_false h1]
      simp
theorem Asc.drop {s : PSet} (h : Asc s) (n : Nat) : Asc (s.drop n) := ⟨fun p hp => h.1 p (List.mem_of_mem_drop hp), h.2.sublist (List.drop_sublist n s)⟩
theorem Asc.lt {s : PSet} (h : Asc s) {i j : Nat} {p q : Int × Int} (hij : i < j) (hp : s[i]? = some p) (hq : s[j]? = some q) : p.2 < q.1 := by
  obtain ⟨h1, e1⟩ := List.getElem?_eq_some_iff.mp hp
  obtain ⟨h2, e2⟩ := List.getElem?_eq_some_iff.mp hq
  have := List.pairwise_iff_getElem.mp h.2 i j h1 h2 hij
  rw [e1, e2] at this
  exact this
theorem take_step {α : Type} {s : List α} {i : Nat} {p : α} (h : s[i]? = some p) : s.take (i + 1) = s.take i ++ [p] := by rw [List.take_add_one, h]; rfl
/-- how far the runs of the first i pairs reach, and how many pairs they have -/
theorem com_reach {s o : PSet} (ho : Asc o) (hs : Asc s) : ∀ i : Nat, i ≤ s.length → (((s.take i).foldl (comStep o) ([], 0)).2 ≤ o.length) ∧ ∃ r, ((s.take i).foldl (comStep o) ([], 0)).2 ≤ r ∧ r ≤ o.length ∧ ((s.take i).foldl (comStep o) ([], 0)).1.length ≤ i + r ∧
    ∀ p, s[i]? = some p → r ≤ skipTo o ((s.take i).foldl (comStep o) ([], 0)).2 p.1 + 1
  | 0, _ => ⟨Nat.zero_le _, 0, Nat.le_refl _, Nat.zero_le _, by simp, fun _ _ => Nat.zero_le _⟩
  | i + 1, hi => by
    obtain ⟨h1, r, h2, h3, h4, h5⟩ := com_reach ho hs i (by omega)
    have hp : s[i]? = some s[i] := List.getElem?_eq_getElem (by omega)
    generalize s[i] = p at hp
    have h5 := h5 p hp
    rw [take_step hp, List.foldl_append]
    generalize (s.take i).foldl (comStep o) ([], 0) = st at *
    simp only [List.foldl_cons, List.foldl_nil, comStep]
    obtain ⟨k1, k2⟩ := skipTo_le o st.2 p.1 h1
    have hrun : (meetRun o (skipTo o st.2 p.1) p).length ≤ o.length - skipTo o st.2 p.1 := by
      unfold meetRun
      rw [List.length_map]
      have := (List.takeWhile_sublist (l := o.drop (skipTo o st.2 p.1)) (fun q => decide (q.1 ≤ p.2))).length_le
      rw [List.length_drop] at this
      exact this
    refine ⟨k2, skipTo o st.2 p.1 + (meetRun o (skipTo o st.2 p.1) p).length, by omega, by omega, by rw [List.length_append]; omega, fun q hq => ?_⟩
    have hlt := hs.lt (Nat.lt_succ_self i) hp hq
    have := tw_run hlt (ho.drop (skipTo o st.2 p.1))
    have e : skipTo o (skipTo o st.2 p.1) q.1 = skipTo o st.2 p.1 + ((o.drop (skipTo o st.2 p.1)).takeWhile fun z => decide (z.2 < q.1)).length := rfl
    have e2 : (meetRun o (skipTo o st.2 p.1) p).length = ((o.drop (skipTo o st.2 p.1)).takeWhile fun q => decide (q.1 ≤ p.2)).length := by unfold meetRun; rw [List.length_map]
    omega
section
variable {P : Program} {w : World} {K : PySem.W.Frag} {mg : Str → Option Value} {base : Heap}
theorem g_common (T : Tx K mg) : Gd P w K mg base "common" 2 (SpF (fun s : PSet × PSet => [setD s.1, setD s.2]) (fun s => Asc s.1 ∧ Asc s.2 ∧ s.1.length + s.2.length < sizeLine) fun s d => d = setD (pcommon s.1 s.2)) := by
  obtain ⟨f, fd, F, hm⟩ := T.f_common
  refine gd_of F (ok_def F sc_common (fun _ => rfl) fun so hso cdv A outer sh H E hr => ?_) hm fun _ _ _ _ _ _ us hl => match us, hl with | [_, _], _ => rfl
  obtain ⟨s, o⟩ := so
  obtain ⟨hs, ho, hz⟩ := hso
  simp only at hs ho hz
  have nd := sc_common.nd
  have nl := T.n_len
  refine ss_cons (s_parO 2 3 (ef_lst (av_nil ⟨sz (by decide), ?_⟩)))
  walk_at "go"
  intro p
  refine ss_cons (s_for (fun i ρ _ => ∃ y z u, ρ = [.val (setD s), .val (setD o), .own p (((s.take i).foldl (comStep o) ([], 0)).1.map pD), .val (.int (((s.take i).foldl (comStep o) ([], 0)).2 : Nat)), y, z, u]) (iv_tup ?_))
  walk_at "go"
  refine fun _ => ⟨⟨_, _, _, rfl⟩, fun i d ρ2 g2 hd hi => ?_, fun ρ2 g2 hi => ?_⟩
  · obtain ⟨y, z, u, rfl⟩ := hi
    rw [List.getElem?_map] at hd
    cases ei : s[i]? with
    | none => rw [ei] at hd; cases hd
    | some q =>
      rw [ei] at hd
      cases hd
      have hi := (List.getElem?_eq_some_iff.mp ei).1
      obtain ⟨h1, r, h2, h3, h4, h5⟩ := com_reach ho hs i (by omega)
      have h5 := h5 q ei
      rw [take_step ei, List.foldl_append]
      generalize hst : (s.take i).foldl (comStep o) ([], 0) = st at *
      obtain ⟨k1, k2⟩ := skipTo_le o st.2 q.1 h1
      simp only [List.foldl_cons, List.foldl_nil, comStep]
      have oget : ∀ {n : Nat} {x : Int × Int}, o[n]? = some x → atI (o.map pD) ((n : Nat) : Int) = some (pD x) := fun {n x} hx => atI_nat (by rw [List.getElem?_map, hx]; rfl)
      walk_at "gv"
      -- while at < len(other) and other[at][1] < first: at += 1
      refine ss_cons (s_while (fun m ρ _ => ∃ k n, m = ((o.drop st.2).takeWhile fun z => decide (z.2 < q.1)).length - k ∧ k ≤ ((o.drop st.2).takeWhile fun z => decide (z.2 < q.1)).length ∧ n = ((st.2 + k : Nat) : Int) ∧ ρ = [.val (setD s), .val (setD o), .own p (st.1.map pD), .val (.int n), .val (.int q.1), .val (.int q.2), u]) _ ⟨0, _, rfl, Nat.zero_le _, rfl, rfl⟩ fun m ρ3 g3 hI => ?_)
      obtain ⟨k, n, hmm, hk, hn, rfl⟩ := hI
      refine PTv.imp (φ := fun c _ => c = decide (k < ((o.drop st.2).takeWhile fun z => decide (z.2 < q.1)).length)) (tv_w (wv_and (tv_cmp ?_))) fun c g4 hc => ⟨fun h => ss_one (s_aug 3 ip_add rfl ?_), fun h => ?_⟩
      · walk_at "go"
        rw [List.length_map]
        refine ⟨fun hc => wv_and1 ?_, fun hc => ?_⟩
        · have hlt : st.2 + k < o.length := by have := of_decide_eq_true hc; omega
          have hx : o[st.2 + k]? = some o[st.2 + k] := List.getElem?_eq_getElem hlt
          generalize o[st.2 + k] = x at hx
          have hx2 : (o.drop st.2)[k]? = some x := by rw [List.getElem?_drop]; exact hx
          walk_at "go"
          refine ⟨_, _, rfl, by rw [hn]; exact oget hx, ?_⟩
          walk_at "go"
          exact (tw_dec hk hx2).symm
        · rcases Nat.lt_or_ge k ((o.drop st.2).takeWhile fun z => decide (z.2 < q.1)).length with h | h
          · obtain ⟨x', e1, e2⟩ := tw_lt h
            rw [List.getElem?_drop] at e1
            have := (List.getElem?_eq_some_iff.mp e1).1
            have hc := of_decide_eq_false hc
            omega
          · rw [decide_eq_false (by omega)]
      · subst hc
        have hkl := of_decide_eq_true h
        walk_at "go"
        exact ⟨m - 1, by omega, k + 1, _, by omega, hkl, by omega, rfl⟩
      · -- here = at
        subst hc
        have hkl : k = ((o.drop st.2).takeWhile fun z => decide (z.2 < q.1)).length := by have := of_decide_eq_false h; omega
        have hn2 : n = ((skipTo o st.2 q.1 : Nat) : Int) := by rw [hn, hkl]; rfl
        subst hn2
        generalize skipTo o st.2 q.1 = a at *
        refine ss_cons (s_set 6 ?_)
        walk_at "go"
        have rl : (meetRun o a q).length = ((o.drop a).takeWhile fun z => decide (z.1 ≤ q.2)).length := by unfold meetRun; rw [List.length_map]
        have rle : (meetRun o a q).length ≤ o.length - a := by
          rw [rl]
          have := (List.takeWhile_sublist (l := o.drop a) (fun z => decide (z.1 ≤ q.2))).length_le
          rw [List.length_drop] at this
          exact this
        -- while here < len(other) and other[here][0] <= last
        refine ss_one (s_while (fun m ρ _ => ∃ j n', m = (meetRun o a q).length - j ∧ j ≤ (meetRun o a q).length ∧ n' = ((a + j : Nat) : Int) ∧ ρ = [.val (setD s), .val (setD o), .own p ((st.1 ++ (meetRun o a q).take j).map pD), .val (.int (a : Nat)), .val (.int q.1), .val (.int q.2), .val (.int n')]) _ ⟨0, _, rfl, Nat.zero_le _, rfl, by simp⟩ fun m ρ3 g3 hI => ?_)
        obtain ⟨j, n', hmm, hj, hn', rfl⟩ := hI
        rw [rl] at hj
        refine PTv.imp (φ := fun c _ => c = decide (j < ((o.drop a).takeWhile fun z => decide (z.1 ≤ q.2)).length)) (tv_w (wv_and (tv_cmp ?_))) fun c g4 hc => ⟨fun h => ss_cons (s_append 2 rfl ?_), fun h => ?_⟩
        · walk_at "go"
          rw [List.length_map]
          refine ⟨fun hc => wv_and1 ?_, fun hc => ?_⟩
          · have hlt : a + j < o.length := by have := of_decide_eq_true hc; omega
            have hx : o[a + j]? = some o[a + j] := List.getElem?_eq_getElem hlt
            generalize o[a + j] = x at hx
            have hx2 : (o.drop a)[j]? = some x := by rw [List.getElem?_drop]; exact hx
            walk_at "go"
            refine ⟨_, _, rfl, by rw [hn']; exact oget hx, ?_⟩
            walk_at "go"
            exact (tw_dec (f := fun z : Int × Int => decide (z.1 ≤ q.2)) hj hx2).symm
          · rcases Nat.lt_or_ge j ((o.drop a).takeWhile fun z => decide (z.1 ≤ q.2)).length with h | h
            · obtain ⟨x', e1, e2⟩ := tw_lt h
              rw [List.getElem?_drop] at e1
              have := (List.getElem?_eq_some_iff.mp e1).1
              have hc := of_decide_eq_false hc
              omega
            · rw [decide_eq_false (by omega)]
        · subst hc
          have hjl := of_decide_eq_true h
          obtain ⟨x, e1, e2⟩ := tw_lt hjl
          have hx : o[a + j]? = some x := by rw [List.getElem?_drop] at e1; exact e1
          have nxt : (meetRun o a q).take (j + 1) = (meetRun o a q).take j ++ [(max q.1 x.1, min q.2 x.2)] := by
            unfold meetRun
            rw [← List.map_take, ← List.map_take, tw_snoc hjl e1, List.map_append]; rfl
          refine ev_tup (av_cons (ev_callB (id := "max") T.n_max ?_))
          walk_at "go"
          refine ⟨_, _, rfl, by rw [hn']; exact oget hx, ?_⟩
          walk_at "go"
          refine cd_max2 rfl (av_cons (ev_callB (id := "min") T.n_min ?_))
          walk_at "go"
          refine ⟨_, _, rfl, by rw [hn']; exact oget hx, ?_⟩
          walk_at "go"
          refine cd_min2 rfl ?_
          walk_at "go"
          refine ⟨?_, ss_one (s_aug 6 ip_add rfl ?_)⟩
          · rw [List.length_map, List.length_append, List.length_take]
            omega
          · walk_at "go"
            refine ⟨m - 1, by omega, j + 1, n' + 1, by omega, by omega, by omega, ?_⟩
            rw [nxt, ← List.append_assoc, List.map_append (l₂ := [_])]
            rfl
        · subst hc
          have hjl : j = (meetRun o a q).length := by have := of_decide_eq_false h; omega
          rw [hjl, List.take_length]
          exact ⟨_, _, _, rfl⟩
  · obtain ⟨y, z, u, rfl⟩ := hi
    rw [List.length_map, List.take_length]
    refine ss_freeze 2 rfl (ss_one (s_ret (ev_call (g_merged T) (hr.mono (by decide)) ?_)))
    walk_at "go"
    exact ⟨trivial, fun d hd => hd⟩
end
end Co

namespace Co
open PySem PySem.Spec PyProof.Rows L2
/-- the ends of a set -/
def endsP (s : PSet) : Int × Int := ((s.headD (0, 0)).1, (s.getLastD (0, 0)).2)
def pdiff (s t : PSet) : PSet := if s = [] then [] else pcommon s (pout t (endsP s).1 (endsP s).2)
theorem setD_nil {s : PSet} : setD s = .tup [] ↔ s = [] := by
  unfold setD
  constructor
  · intro h
    cases s with
    | nil => rfl
    | cons a s => cases h
  · rintro rfl; rfl
theorem fitS (s : PSet) : Fit 2 (setD s) := Fit.setT (by decide)
theorem nbS (s : PSet) : (setD s).nb = true := nb_set s
theorem headLast {s : PSet} (h : s ≠ []) : ∃ a b, atI (s.map pD) 0 = some (pD a) ∧ a.1 = (endsP s).1 ∧ atI (s.map pD) (-1) = some (pD b) ∧ b.2 = (endsP s).2 := by
  refine ⟨s.head h, s.getLast h, ?_, ?_, ?_, ?_⟩
  · cases s with
    | nil => exact absurd rfl h
    | cons a s => exact atI_nat (j := 0) rfl
  · cases s with
    | nil => exact absurd rfl h
    | cons a s => rfl
  · have e : s.map pD = (s.dropLast).map pD ++ [pD (s.getLast h)] := by
      rw [← List.map_singleton (f := pD), ← List.map_append, List.dropLast_concat_getLast h]
    rw [e]
    exact atI_last _ _
  · unfold endsP
    rw [List.getLastD_eq_getLast?, List.getLast?_eq_some_getLast h]; rfl
theorem pout_len (s : PSet) (a b : Int) : (pout s a b).length ≤ s.length + 1 := by
  refine Nat.le_trans (List.length_filter_le _ _) ?_
  unfold poutRaw
  simp only [List.length_append, outFold_len, List.length_cons, List.length_nil]
  have := pclip_len s a b
  omega
section
variable {P : Program} {w : World} {K : PySem.W.Frag} {mg : Str → Option Value} {base : Heap}
theorem g_difference (T : Tx K mg) : Gd P w K mg base "difference" 3 (SpF (fun s : PSet × PSet => [setD s.1, setD s.2]) (fun s => Asc s.1 ∧ (∀ a b, Asc (pout s.2 a b)) ∧ s.1.length + s.2.length + 1 < sizeLine) fun s d => d = setD (pdiff s.1 s.2)) := by
  obtain ⟨f, fd, F, hm⟩ := T.f_difference
  refine gd_of F (ok_def F sc_difference (fun _ => rfl) fun s hs cdv A outer sh H E hr => ?_) hm fun _ _ _ _ _ _ us hl => match us, hl with | [_, _], _ => rfl
  have nd := sc_difference.nd
  obtain ⟨ha, hb, hl⟩ := hs
  refine ss_cons (s_if (tv_cmp ?_))
  walk_at "go"
  refine od_eqG (n := 2) (p := s.1 = []) hr.units (fitS _) (fitS []) (nbS _) rfl setD_nil (by decide) ⟨_, rfl, fun hc => ?_, fun hc => ?_⟩
  · refine ss_one (s_ret ?_)
    walk_at "go"
    have := of_decide_eq_true hc
    rw [pdiff, if_pos this]; rfl
  · have hne := of_decide_eq_false hc
    obtain ⟨a, b, h1, h2, h3, h4⟩ := headLast hne
    refine ss_nil (ss_one (s_ret (ev_call (g_common T) (hr.mono (by decide)) ?_)))
    walk_at "go"
    refine ev_callTy (T := "tuple") T.n_tuple (ab_cons (eb (ev_call (g_outside T) (hr.mono (by decide)) ?_)))
    walk_at "go"
    refine ⟨_, _, rfl, h1, ?_⟩
    walk_at "go"
    rw [h2]
    refine ⟨_, _, rfl, h3, ?_⟩
    walk_at "go"
    rw [h4]
    refine ⟨(s.2, (endsP s.1).1, (endsP s.1).2), rfl, by show s.2.length < sizeLine; omega, ?_⟩
    rintro _ rfl
    walk_at "go"
    refine cd_tuple rfl ?_
    walk_at "go"
    refine ⟨(s.1, pout s.2 (endsP s.1).1 (endsP s.1).2), rfl, ⟨ha, hb _ _, ?_⟩, ?_⟩
    · have := pout_len s.2 (endsP s.1).1 (endsP s.1).2
      show s.1.length + (pout s.2 (endsP s.1).1 (endsP s.1).2).length < sizeLine
      omega
    · rintro _ rfl
      rw [pdiff, if_neg hne]
end
end Co

namespace Co
/-! ### what sets are: the plain law -/
/-- a position set -/
def Canon (s : PSet) : Prop := (∀ p ∈ s, 0 ≤ p.1 ∧ p.1 ≤ p.2) ∧ s.Pairwise fun p q => p.2 + 1 < q.1
theorem Canon.asc {s : PSet} (h : Canon s) : Asc s := ⟨fun p hp => (h.1 p hp).2, h.2.imp (fun z => by omega)⟩
theorem Canon.nil : Canon [] := ⟨fun _ h => (nomatch h), List.Pairwise.nil⟩
theorem Canon.tail {p : Int × Int} {s : PSet} (h : Canon (p :: s)) : Canon s := ⟨fun q hq => h.1 q (List.mem_cons_of_mem _ hq), (List.pairwise_cons.mp h.2).2⟩
theorem Canon.head {p : Int × Int} {s : PSet} (h : Canon (p :: s)) : 0 ≤ p.1 ∧ p.1 ≤ p.2 ∧ ∀ q ∈ s, p.2 + 1 < q.1 := ⟨(h.1 p (.head _)).1, (h.1 p (.head _)).2, (List.pairwise_cons.mp h.2).1⟩
theorem Asc.tail {p : Int × Int} {s : PSet} (h : Asc (p :: s)) : Asc s := ⟨fun q hq => h.1 q (List.mem_cons_of_mem _ hq), (List.pairwise_cons.mp h.2).2⟩
theorem pmem_cons {p : Int × Int} {s : PSet} {x : Int} : pmem (p :: s) x ↔ (p.1 ≤ x ∧ x ≤ p.2) ∨ pmem s x := by simp [pmem]
theorem pmem_nil {x : Int} : ¬ pmem [] x := by simp [pmem]
theorem pmem_append {s t : PSet} {x : Int} : pmem (s ++ t) x ↔ pmem s x ∨ pmem t x := by
  induction s with
  | nil => simp [pmem_nil]
  | cons p s ih => rw [List.cons_append, pmem_cons, pmem_cons, ih, or_assoc]
/-- sets with the same positions are the same -/
theorem canon_ext : ∀ {s t : PSet}, Canon s → Canon t → (∀ x, pmem s x ↔ pmem t x) → s = t
  | [], [], _, _, _ => rfl
  | [], q :: t, _, ht, h => absurd ((h q.1).mpr (pmem_cons.mpr (.inl ⟨Int.le_refl _, (ht.head).2.1⟩))) pmem_nil
  | p :: s, [], hs, _, h => absurd ((h p.1).mp (pmem_cons.mpr (.inl ⟨Int.le_refl _, (hs.head).2.1⟩))) pmem_nil
  | p :: s, q :: t, hs, ht, h => by
    obtain ⟨a0, a1, a2⟩ := hs.head
    obtain ⟨b0, b1, b2⟩ := ht.head
    have low : ∀ {r : Int × Int} {u : PSet} {x : Int}, Canon (r :: u) → pmem (r :: u) x → r.1 ≤ x := fun {r u x} hc hx => by
      rcases pmem_cons.mp hx with z | ⟨y, hy, z⟩
      · exact z.1
      · have := hc.head.2.2 y hy; have := hc.head.2.1; omega
    have nxt : ∀ {r : Int × Int} {u : PSet}, Canon (r :: u) → ¬ pmem (r :: u) (r.2 + 1) := fun {r u} hc hx => by
      rcases pmem_cons.mp hx with z | ⟨y, hy, z⟩
      · omega
      · have := hc.head.2.2 y hy; omega
    have e1 : p.1 = q.1 := Int.le_antisymm (low hs ((h _).mpr (pmem_cons.mpr (.inl ⟨Int.le_refl _, b1⟩)))) (low ht ((h _).mp (pmem_cons.mpr (.inl ⟨Int.le_refl _, a1⟩))))
    have in1 : ∀ x, p.1 ≤ x → x ≤ p.2 → x ≤ q.2 := fun x h1 h2 => by
      rcases Int.lt_or_le q.2 x with z | z
      · exact absurd ((h (q.2 + 1)).mp (pmem_cons.mpr (.inl (by constructor <;> omega)))) (nxt ht)
      · exact z
    have in2 : ∀ x, q.1 ≤ x → x ≤ q.2 → x ≤ p.2 := fun x h1 h2 => by
      rcases Int.lt_or_le p.2 x with z | z
      · exact absurd ((h (p.2 + 1)).mpr (pmem_cons.mpr (.inl (by constructor <;> omega)))) (nxt hs)
      · exact z
    have e2 : p.2 = q.2 := Int.le_antisymm (in1 _ a1 (Int.le_refl _)) (in2 _ b1 (Int.le_refl _))
    have e : p = q := Prod.ext e1 e2
    subst e
    rw [canon_ext hs.tail ht.tail fun x => ?_]
    have := h x
    rw [pmem_cons, pmem_cons] at this
    constructor
    · intro hx
      rcases this.mp (.inr hx) with z | z
      · obtain ⟨y, hy, z2⟩ := hx
        have := a2 y hy; omega
      · exact z
    · intro hx
      rcases this.mpr (.inr hx) with z | z
      · obtain ⟨y, hy, z2⟩ := hx
        have := b2 y hy; omega
      · exact z
/-! merged -/
theorem mergeFold_ok : ∀ (xs f : PSet), (∀ p ∈ xs, 0 ≤ p.1 ∧ p.1 ≤ p.2) → xs.Pairwise leP → Canon f → (∀ p ∈ f, ∀ q ∈ xs, p.1 ≤ q.1) → Canon (xs.foldl mergeStep f) ∧ ∀ x, pmem (xs.foldl mergeStep f) x ↔ pmem f x ∨ pmem xs x
  | [], f, _, _, hf, _ => ⟨hf, fun x => by simp [pmem_nil]⟩
  | r :: xs, f, hx, hp, hf, hl => by
    obtain ⟨p1, p2⟩ := List.pairwise_cons.mp hp
    have r0 := hx r (.head _)
    have key : Canon (mergeStep f r) ∧ (∀ x, pmem (mergeStep f r) x ↔ pmem f x ∨ (r.1 ≤ x ∧ x ≤ r.2)) ∧ ∀ p ∈ mergeStep f r, p.1 ≤ r.1 := by
      rcases List.eq_nil_or_concat f with rfl | ⟨f0, l, e⟩
      · refine ⟨⟨fun q hq => ?_, List.pairwise_singleton _ _⟩, fun x => ?_, fun q hq => ?_⟩
        · rw [List.mem_singleton.mp hq]; exact r0
        · show pmem [r] x ↔ _
          rw [pmem_cons]; simp [pmem_nil]
        · rw [List.mem_singleton.mp hq]; exact Int.le_refl _
      · rw [List.concat_eq_append] at e
        subst e
        have gl : (f0 ++ [l]).getLast? = some l := List.getLast?_concat
        obtain ⟨q1, q2, q3⟩ := List.pairwise_append.mp hf.2
        have l0 := hf.1 l (by simp)
        have lr := hl l (by simp) r (.head _)
        have ms : mergeStep (f0 ++ [l]) r = if r.1 ≤ l.2 + 1 then (f0 ++ [l]).dropLast ++ [(l.1, max l.2 r.2)] else f0 ++ [l] ++ [r] := by
          unfold mergeStep
          rw [gl]
        rw [ms]
        by_cases hc : r.1 ≤ l.2 + 1
        · rw [if_pos hc, List.dropLast_concat]
          refine ⟨⟨fun q hq => ?_, List.pairwise_append.mpr ⟨q1, List.pairwise_singleton _ _, fun a ha b hb => ?_⟩⟩, fun x => ?_, fun q hq => ?_⟩
          · rcases List.mem_append.mp hq with z | z
            · exact hf.1 q (List.mem_append_left _ z)
            · rw [List.mem_singleton.mp z]
              exact ⟨l0.1, by show l.1 ≤ max l.2 r.2; omega⟩
          · rw [List.mem_singleton.mp hb]
            exact q3 a ha l (by simp)
          · rw [pmem_append, pmem_append, pmem_cons, pmem_cons]
            simp only [pmem_nil, or_false]
            rw [or_assoc]
            refine or_congr Iff.rfl ?_
            show l.1 ≤ x ∧ x ≤ max l.2 r.2 ↔ _
            omega
          · rcases List.mem_append.mp hq with z | z
            · exact hl q (List.mem_append_left _ z) r (.head _)
            · rw [List.mem_singleton.mp z]; exact lr
        · rw [if_neg hc]
          refine ⟨⟨fun q hq => ?_, List.pairwise_append.mpr ⟨hf.2, List.pairwise_singleton _ _, fun a ha b hb => ?_⟩⟩, fun x => ?_, fun q hq => ?_⟩
          · rcases List.mem_append.mp hq with z | z
            · exact hf.1 q z
            · rw [List.mem_singleton.mp z]; exact r0
          · rw [List.mem_singleton.mp hb]
            rcases List.mem_append.mp ha with z | z
            · have := q3 a z l (by simp); have := l0.2; omega
            · rw [List.mem_singleton.mp z]; omega
          · rw [pmem_append, pmem_cons]
            simp only [pmem_nil, or_false]
          · rcases List.mem_append.mp hq with z | z
            · exact hl q z r (.head _)
            · rw [List.mem_singleton.mp z]; exact Int.le_refl _
    obtain ⟨k1, k2, k3⟩ := key
    obtain ⟨a, b⟩ := mergeFold_ok xs (mergeStep f r) (fun p hp => hx p (.tail _ hp)) p2 k1 fun p hp q hq => by
      have h1 := k3 p hp
      have h2 := p1 q hq
      unfold leP at h2
      omega
    refine ⟨a, fun x => ?_⟩
    rw [List.foldl_cons, b x, k2 x, pmem_cons, or_assoc]
theorem pmem_perm {s t : PSet} (h : s.Perm t) (x : Int) : pmem s x ↔ pmem t x := by
  unfold pmem
  constructor
  · rintro ⟨p, hp, z⟩; exact ⟨p, h.mem_iff.mp hp, z⟩
  · rintro ⟨p, hp, z⟩; exact ⟨p, h.mem_iff.mpr hp, z⟩
theorem pmerge_ok {s : PSet} (h : ∀ p ∈ s, 0 ≤ p.1 ∧ p.1 ≤ p.2) : Canon (pmerge s) ∧ ∀ x, pmem (pmerge s) x ↔ pmem s x := by
  obtain ⟨a, b⟩ := mergeFold_ok (sortP s) [] (fun p hp => h p ((sortP_perm s).mem_iff.mp hp)) (sortP_sorted s) .nil (fun p hp => nomatch hp)
  refine ⟨a, fun x => ?_⟩
  have := b x
  simp only [pmem_nil, false_or] at this
  exact this.trans (pmem_perm (sortP_perm s) x)
theorem pmerge_len (s : PSet) : (pmerge s).length ≤ s.length := by
  have := mergeFold_len (sortP s) []
  rw [(sortP_perm s).length_eq, List.length_nil, Nat.zero_add] at this
  exact this
theorem pmerge_canon {s : PSet} (h : Canon s) : pmerge s = s := canon_ext (pmerge_ok h.1).1 h (pmerge_ok h.1).2
/-! clipped -/
theorem pclip_mem (s : PSet) (a b x : Int) : pmem (pclip s a b) x ↔ pmem s x ∧ a ≤ x ∧ x ≤ b := by
  unfold pmem pclip
  constructor
  · rintro ⟨p, hp, z⟩
    obtain ⟨h1, h2⟩ := List.mem_filter.mp hp
    obtain ⟨q, hq, rfl⟩ := List.mem_map.mp h1
    simp only at z
    exact ⟨⟨q, hq, by omega⟩, by omega⟩
  · rintro ⟨⟨p, hp, z⟩, h⟩
    refine ⟨_, List.mem_filter.mpr ⟨List.mem_map.mpr ⟨p, hp, rfl⟩, ?_⟩, ?_⟩
    · simp only [decide_eq_true_eq]; omega
    · simp only; omega
theorem pclip_canon {s : PSet} (h : Canon s) (a b : Int) (ha : 0 ≤ a) : Canon (pclip s a b) := by
  unfold pclip
  refine ⟨fun p hp => ?_, ?_⟩
  · obtain ⟨h1, h2⟩ := List.mem_filter.mp hp
    obtain ⟨q, hq, rfl⟩ := List.mem_map.mp h1
    have := h.1 q hq
    simp only [decide_eq_true_eq] at h2
    simp only
    omega
  · refine List.Pairwise.filter _ (List.pairwise_map.mpr (h.2.imp ?_))
    intro p q z
    simp only
    omega
theorem pclip_in {s : PSet} {a b : Int} {p : Int × Int} (hp : p ∈ pclip s a b) : a ≤ p.1 ∧ p.1 ≤ p.2 ∧ p.2 ≤ b := by
  obtain ⟨h1, h2⟩ := List.mem_filter.mp hp
  obtain ⟨q, hq, rfl⟩ := List.mem_map.mp h1
  simp only [decide_eq_true_eq] at h2
  simp only at *
  omega
theorem pclip_asc {s : PSet} (h : s.Pairwise fun p q => p.2 + 1 < q.1) (a b : Int) : (pclip s a b).Pairwise fun p q => p.2 + 1 < q.1 := by
  unfold pclip
  refine List.Pairwise.filter _ (List.pairwise_map.mpr (h.imp ?_))
  intro p q z
  simp only
  omega
/-! outside -/
def outR (b : Int) : PSet → Int → PSet
  | [], a => [(a, b)]
  | p :: l, a => (a, p.1 - 1) :: outR b l (p.2 + 1)
theorem outR_fold (b : Int) : ∀ (l : PSet) (acc : PSet) (a : Int), (l.foldl outStep (acc, a)).1 ++ [((l.foldl outStep (acc, a)).2, b)] = acc ++ outR b l a
  | [], acc, a => rfl
  | p :: l, acc, a => by
    rw [List.foldl_cons]
    rw [show outStep (acc, a) p = (acc ++ [(a, p.1 - 1)], p.2 + 1) from rfl, outR_fold b l]
    simp [outR]
theorem outR_ok (b : Int) : ∀ (l : PSet) (a : Int), (∀ p ∈ l, a ≤ p.1 ∧ p.1 ≤ p.2 ∧ p.2 ≤ b) → (l.Pairwise fun p q => p.2 + 1 < q.1) →
    (∀ x, pmem (outR b l a) x ↔ a ≤ x ∧ x ≤ b ∧ ¬ pmem l x) ∧ (∀ q ∈ outR b l a, a ≤ q.1) ∧ (outR b l a).Pairwise (fun p q => p.2 < q.1 ∧ p.2 + 1 < q.1 ∨ p.2 < p.1)
  | [], a, _, _ => ⟨fun x => by rw [outR, pmem_cons]; simp [pmem_nil], fun q hq => by rw [List.mem_singleton.mp hq]; exact Int.le_refl _, List.pairwise_singleton _ _⟩
  | p :: l, a, h, hp => by
    obtain ⟨p1, p2⟩ := List.pairwise_cons.mp hp
    have h0 := h p (.head _)
    obtain ⟨i1, i2, i3⟩ := outR_ok b l (p.2 + 1) (fun q hq => ⟨by have := p1 q hq; omega, (h q (.tail _ hq)).2⟩) p2
    refine ⟨fun x => ?_, fun q hq => ?_, List.pairwise_cons.mpr ⟨fun q hq => ?_, i3⟩⟩
    · rw [outR, pmem_cons, i1 x, pmem_cons]
      have far : pmem l x → p.2 + 1 < x := fun ⟨q, hq, z⟩ => by have := p1 q hq; omega
      show a ≤ x ∧ x ≤ p.1 - 1 ∨ _ ↔ _
      constructor
      · rintro (z | ⟨z1, z2, z3⟩)
        · exact ⟨z.1, by omega, fun w => w.elim (fun w => by omega) fun w => by have := far w; omega⟩
        · exact ⟨by omega, z2, fun w => w.elim (fun w => by omega) z3⟩
      · rintro ⟨z1, z2, z3⟩
        by_cases hx : x ≤ p.1 - 1
        · exact .inl ⟨z1, hx⟩
        · refine .inr ⟨?_, z2, fun w => z3 (.inr w)⟩
          by_cases hx2 : x ≤ p.2
          · exact absurd (.inl ⟨by omega, hx2⟩) z3
          · omega
    · rcases List.mem_cons.mp hq with rfl | hq
      · exact Int.le_refl _
      · have := i2 q hq; omega
    · have := i2 q hq
      show p.1 - 1 < q.1 ∧ p.1 - 1 + 1 < q.1 ∨ p.1 - 1 < a
      left
      omega
theorem pout_eq (s : PSet) (a b : Int) : pout s a b = (outR b (pclip s a b) a).filter fun p => decide (p.1 ≤ p.2) := by
  unfold pout poutRaw
  have := outR_fold b (pclip s a b) [] a
  rw [List.nil_append] at this
  rw [← this]
theorem pmem_filter {s : PSet} {x : Int} : pmem (s.filter fun p => decide (p.1 ≤ p.2)) x ↔ pmem s x := by
  unfold pmem
  constructor
  · rintro ⟨p, hp, z⟩; exact ⟨p, (List.mem_filter.mp hp).1, z⟩
  · rintro ⟨p, hp, z⟩; exact ⟨p, List.mem_filter.mpr ⟨hp, by simp only [decide_eq_true_eq]; omega⟩, z⟩
theorem pout_ok {s : PSet} (h : s.Pairwise fun p q => p.2 + 1 < q.1) (a b : Int) : (∀ x, pmem (pout s a b) x ↔ a ≤ x ∧ x ≤ b ∧ ¬ pmem s x) ∧ Asc (pout s a b) ∧ (∀ q ∈ pout s a b, a ≤ q.1 ∧ q.1 ≤ q.2) ∧ (pout s a b).Pairwise fun p q => p.2 + 1 < q.1 := by
  obtain ⟨i1, i2, i3⟩ := outR_ok b (pclip s a b) a (fun p hp => pclip_in hp) (pclip_asc h a b)
  rw [pout_eq]
  have i4 : ∀ q ∈ (outR b (pclip s a b) a).filter fun p => decide (p.1 ≤ p.2), a ≤ q.1 ∧ q.1 ≤ q.2 := fun q hq => ⟨i2 q (List.mem_filter.mp hq).1, by have := (List.mem_filter.mp hq).2; simpa using this⟩
  have i5 : ((outR b (pclip s a b) a).filter fun p => decide (p.1 ≤ p.2)).Pairwise fun p q => p.2 + 1 < q.1 := by
    rw [List.pairwise_filter]
    refine i3.imp ?_
    intro p q z h1 h2
    simp only [decide_eq_true_eq] at h1 h2
    omega
  refine ⟨fun x => ?_, ⟨fun q hq => (i4 q hq).2, i5.imp fun z => by omega⟩, i4, i5⟩
  rw [pmem_filter, i1 x, pclip_mem]
  constructor
  · rintro ⟨z1, z2, z3⟩; exact ⟨z1, z2, fun w => z3 ⟨w, z1, z2⟩⟩
  · rintro ⟨z1, z2, z3⟩; exact ⟨z1, z2, fun w => z3 w.1⟩

/-! common -/
theorem dw_drop {α : Type} (f : α → Bool) : ∀ l : List α, l.drop (l.takeWhile f).length = l.dropWhile f
  | [] => rfl
  | x :: l => by
    rw [List.takeWhile_cons, List.dropWhile_cons]
    cases h : f x with
    | true => simp only [if_true, List.length_cons, List.drop_succ_cons]; exact dw_drop f l
    | false => rfl
theorem tw_all {α : Type} (f : α → Bool) : ∀ (l : List α) (x : α), x ∈ l.takeWhile f → f x = true ∧ x ∈ l
  | [], x, h => nomatch h
  | y :: l, x, h => by
    rw [List.takeWhile_cons] at h
    cases hf : f y with
    | true =>
      rw [hf] at h
      rcases List.mem_cons.mp h with rfl | h
      · exact ⟨hf, .head _⟩
      · exact ⟨(tw_all f l x h).1, .tail _ (tw_all f l x h).2⟩
    | false => rw [hf] at h; nomatch h
theorem asc_drop {s : PSet} (h : Asc s) (n : Nat) : Asc (s.drop n) := ⟨fun p hp => h.1 p (List.mem_of_mem_drop hp), h.2.sublist (List.drop_sublist n s)⟩
theorem dw_ge {f : Int} : ∀ {l : PSet}, Asc l → ∀ q ∈ l.dropWhile (fun q => decide (q.2 < f)), f ≤ q.2 ∧ q ∈ l
  | [], _, q, h => nomatch h
  | x :: l, ha, q, h => by
    rw [List.dropWhile_cons] at h
    by_cases hx : x.2 < f
    · rw [decide_eq_true hx, if_pos rfl] at h
      exact ⟨(dw_ge ha.tail q h).1, .tail _ (dw_ge ha.tail q h).2⟩
    · rw [decide_eq_false hx, if_neg Bool.false_ne_true] at h
      refine ⟨?_, h⟩
      rcases List.mem_cons.mp h with rfl | h
      · omega
      · have h1 := (List.pairwise_cons.mp ha.2).1 q h
        have h2 := ha.1 q (.tail _ h)
        omega
theorem tw_mem {b : Int} : ∀ {l : PSet}, Asc l → ∀ q ∈ l, q.1 ≤ b → q ∈ l.takeWhile fun q => decide (q.1 ≤ b)
  | [], _, q, h, _ => nomatch h
  | x :: l, ha, q, h, hb => by
    rw [List.takeWhile_cons]
    rcases List.mem_cons.mp h with rfl | h
    · rw [decide_eq_true hb, if_pos rfl]; exact .head _
    · have h1 := (List.pairwise_cons.mp ha.2).1 q h
      have h2 := ha.1 x (.head _)
      rw [decide_eq_true (show x.1 ≤ b by omega), if_pos rfl]
      exact .tail _ (tw_mem ha.tail q h hb)
theorem comFold_ok {o : PSet} (ho : Asc o) : ∀ (s acc : PSet) (n : Nat), Asc s → (∀ q ∈ o.take n, ∀ p ∈ s, q.2 < p.1) →
    (∀ x, pmem (s.foldl (comStep o) (acc, n)).1 x ↔ pmem acc x ∨ (pmem s x ∧ pmem o x)) ∧ ∀ r ∈ (s.foldl (comStep o) (acc, n)).1, r ∈ acc ∨ (r.1 ≤ r.2 ∧ ∃ p ∈ s, p.1 ≤ r.1)
  | [], acc, n, _, _ => ⟨fun x => by simp [pmem_nil], fun r hr => .inl hr⟩
  | p :: s, acc, n, hs, ht => by
    have sk : o.drop (skipTo o n p.1) = (o.drop n).dropWhile fun q => decide (q.2 < p.1) := by
      unfold skipTo
      rw [← List.drop_drop, dw_drop]
    have hd := asc_drop ho n
    have hd2 : Asc (o.drop (skipTo o n p.1)) := asc_drop ho _
    have tk : ∀ q ∈ o.take (skipTo o n p.1), q.2 < p.1 := fun q hq => by
      unfold skipTo at hq
      rw [List.take_add] at hq
      rcases List.mem_append.mp hq with z | z
      · exact ht q z p (.head _)
      · have : (o.drop n).take ((o.drop n).takeWhile fun q => decide (q.2 < p.1)).length = (o.drop n).takeWhile fun q => decide (q.2 < p.1) := by
          have e := List.takeWhile_append_dropWhile (p := fun q : Int × Int => decide (q.2 < p.1)) (l := o.drop n)
          generalize (o.drop n).takeWhile (fun q => decide (q.2 < p.1)) = a at *
          rw [← e, List.take_left']
          rfl
        rw [this] at z
        have := (tw_all _ _ _ z).1
        simpa using this
    have p0 := hs.1 p (.head _)
    have run : (∀ x, pmem (meetRun o (skipTo o n p.1) p) x ↔ (p.1 ≤ x ∧ x ≤ p.2) ∧ pmem o x) ∧ ∀ r ∈ meetRun o (skipTo o n p.1) p, r.1 ≤ r.2 ∧ p.1 ≤ r.1 := by
      unfold meetRun
      refine ⟨fun x => ⟨?_, ?_⟩, fun r hr => ?_⟩
      · rintro ⟨r, hr, z⟩
        obtain ⟨q, hq, rfl⟩ := List.mem_map.mp hr
        obtain ⟨h1, h2⟩ := tw_all _ _ _ hq
        simp only at z
        exact ⟨by omega, q, List.mem_of_mem_drop h2, by omega⟩
      · rintro ⟨hx, q, hq, z⟩
        have hq2 : q ∈ o.drop (skipTo o n p.1) := by
          rw [← List.take_append_drop (skipTo o n p.1) o] at hq
          rcases List.mem_append.mp hq with w | w
          · have := tk q w; omega
          · exact w
        exact ⟨_, List.mem_map.mpr ⟨q, tw_mem hd2 q hq2 (by omega), rfl⟩, by simp only; omega⟩
      · obtain ⟨q, hq, rfl⟩ := List.mem_map.mp hr
        obtain ⟨h1, h2⟩ := tw_all _ _ _ hq
        have h3 := hd2.1 q h2
        rw [sk] at h2
        have h4 := (dw_ge hd q h2).1
        simp only [decide_eq_true_eq] at h1
        simp only
        omega
    obtain ⟨i1, i2⟩ := comFold_ok ho s (acc ++ meetRun o (skipTo o n p.1) p) (skipTo o n p.1) hs.tail fun q hq r hr => by
      have := tk q hq
      have := (List.pairwise_cons.mp hs.2).1 r hr
      omega
    rw [List.foldl_cons]
    refine ⟨fun x => ?_, fun r hr => ?_⟩
    · show pmem (s.foldl (comStep o) (acc ++ meetRun o (skipTo o n p.1) p, skipTo o n p.1)).1 x ↔ _
      rw [i1 x, pmem_append, run.1 x, pmem_cons, or_assoc, or_and_right]
    · rcases i2 r hr with z | ⟨z, q, hq, w⟩
      · rcases List.mem_append.mp z with z | z
        · exact .inl z
        · exact .inr ⟨(run.2 r z).1, p, .head _, (run.2 r z).2⟩
      · exact .inr ⟨z, q, .tail _ hq, w⟩
theorem pcommon_ok {s o : PSet} (hs : Canon s) (ho : Asc o) : Canon (pcommon s o) ∧ ∀ x, pmem (pcommon s o) x ↔ pmem s x ∧ pmem o x := by
  obtain ⟨i1, i2⟩ := comFold_ok ho s [] 0 hs.asc (fun q hq => nomatch hq)
  have k := pmerge_ok (s := (s.foldl (comStep o) ([], 0)).1) fun r hr => by
    rcases i2 r hr with z | ⟨z, p, hp, w⟩
    · nomatch z
    · have := (hs.1 p hp).1; omega
  refine ⟨k.1, fun x => ?_⟩
  rw [pcommon, k.2 x, i1 x]
  simp [pmem_nil]
theorem pcommon_len {s o : PSet} (hs : Asc s) (ho : Asc o) : (pcommon s o).length ≤ s.length + o.length := by
  unfold pcommon
  refine Nat.le_trans (pmerge_len _) ?_
  obtain ⟨h1, r, h2, h3, h4, h5⟩ := com_reach ho hs s.length (Nat.le_refl _)
  rw [List.take_length] at *
  omega

/-! difference, sizes, moves -/
theorem ends_le {s : PSet} (h : Canon s) {x : Int} (hx : pmem s x) : (endsP s).1 ≤ x ∧ x ≤ (endsP s).2 := by
  cases s with
  | nil => exact absurd hx pmem_nil
  | cons p s =>
    constructor
    · show p.1 ≤ x
      rcases pmem_cons.mp hx with z | ⟨y, hy, z⟩
      · exact z.1
      · have := h.head.2.2 y hy; have := h.head.2.1; omega
    · have e : (endsP (p :: s)).2 = ((p :: s).getLast (List.cons_ne_nil _ _)).2 := by
        unfold endsP
        rw [List.getLastD_eq_getLast?, List.getLast?_eq_some_getLast (List.cons_ne_nil _ _)]; rfl
      rw [e]
      obtain ⟨q, hq, z⟩ := hx
      rw [← List.dropLast_concat_getLast (List.cons_ne_nil p s)] at hq h
      rcases List.mem_append.mp hq with w | w
      · have h1 := (List.pairwise_append.mp h.2).2.2 q w _ (List.mem_singleton.mpr rfl)
        have h2 := h.1 _ (List.mem_append_right _ (List.mem_singleton.mpr rfl))
        omega
      · rw [List.mem_singleton.mp w] at z; exact z.2
theorem pdiff_ok {s t : PSet} (hs : Canon s) (ht : Canon t) : Canon (pdiff s t) ∧ ∀ x, pmem (pdiff s t) x ↔ pmem s x ∧ ¬ pmem t x := by
  unfold pdiff
  by_cases h : s = []
  · rw [if_pos h, h]
    exact ⟨.nil, fun x => by simp [pmem_nil]⟩
  · rw [if_neg h]
    obtain ⟨o1, o2, _⟩ := pout_ok ht.2 (endsP s).1 (endsP s).2
    obtain ⟨k1, k2⟩ := pcommon_ok hs o2
    refine ⟨k1, fun x => ?_⟩
    rw [k2 x, o1 x]
    constructor
    · rintro ⟨a, b⟩; exact ⟨a, b.2.2⟩
    · rintro ⟨a, b⟩; exact ⟨a, (ends_le hs a).1, (ends_le hs a).2, b⟩
theorem pdiff_len {s t : PSet} (hs : Canon s) (ht : Canon t) : (pdiff s t).length ≤ s.length + t.length + 1 := by
  unfold pdiff
  by_cases h : s = []
  · rw [if_pos h]; exact Nat.zero_le _
  · rw [if_neg h]
    obtain ⟨o1, o2, _⟩ := pout_ok ht.2 (endsP s).1 (endsP s).2
    have := pcommon_len hs.asc o2
    have := pout_len t (endsP s).1 (endsP s).2
    omega
/-- the positions below N -/
def cntP (s : PSet) (N : Nat) : Nat := (List.range N).countP fun (x : Nat) => decide (pmem s (x : Int))
theorem cnt_one (a b : Int) (ha : 0 ≤ a) : ∀ N : Nat, ((List.range N).countP fun (x : Nat) => decide (a ≤ (x : Int) ∧ (x : Int) ≤ b)) = (min (b + 1) N - a).toNat
  | 0 => by rw [List.range_zero, List.countP_nil]; omega
  | N + 1 => by
    rw [List.range_succ, List.countP_append, cnt_one a b ha N, List.countP_cons, List.countP_nil]
    by_cases h : a ≤ (N : Int) ∧ (N : Int) ≤ b
    · rw [if_pos (decide_eq_true h)]; omega
    · rw [if_neg (by rw [decide_eq_false h]; exact Bool.false_ne_true)]; omega
theorem countP_or {α : Type} (p q : α → Bool) : ∀ l : List α, (∀ x ∈ l, ¬ (p x = true ∧ q x = true)) → l.countP (fun x => p x || q x) = l.countP p + l.countP q
  | [], _ => rfl
  | x :: l, h => by
    have ih := countP_or p q l fun y hy => h y (.tail _ hy)
    have hx := h x (.head _)
    rw [List.countP_cons, List.countP_cons, List.countP_cons, ih]
    cases h1 : p x <;> cases h2 : q x <;> simp_all <;> omega
theorem cntP_eq : ∀ {s : PSet}, Canon s → ∀ N : Nat, (∀ p ∈ s, p.2 < (N : Int)) → (cntP s N : Int) = psize s
  | [], _, N, _ => by
    unfold cntP psize
    rw [List.countP_eq_zero.mpr (fun x _ => by simp [pmem_nil])]; rfl
  | p :: s, h, N, hN => by
    have ih := cntP_eq h.tail N fun q hq => hN q (.tail _ hq)
    obtain ⟨a0, a1, a2⟩ := h.head
    have e : cntP (p :: s) N = (List.range N).countP (fun (x : Nat) => decide (p.1 ≤ (x : Int) ∧ (x : Int) ≤ p.2)) + cntP s N := by
      unfold cntP
      rw [← countP_or]
      · refine List.countP_congr fun x _ => ?_
        simp [pmem_cons]
      · rintro x _ ⟨z1, z2⟩
        simp only [decide_eq_true_eq] at z1 z2
        obtain ⟨q, hq, w⟩ := z2
        have := a2 q hq; omega
    rw [e, cnt_one _ _ a0]
    have hp := hN p (.head _)
    unfold psize at ih ⊢
    rw [List.map_cons, List.sum_cons, ← ih]
    omega
theorem bound (s : PSet) : ∃ N : Nat, ∀ p ∈ s, p.2 < (N : Int) := by
  induction s with
  | nil => exact ⟨0, fun _ h => (nomatch h)⟩
  | cons p s ih =>
    obtain ⟨N, h⟩ := ih
    refine ⟨max N (p.2.toNat + 1), fun q hq => ?_⟩
    rcases List.mem_cons.mp hq with rfl | hq
    · omega
    · have := h q hq; omega
theorem pmem_bound {s : PSet} {N : Nat} (h : ∀ p ∈ s, p.2 < (N : Int)) {x : Int} (hx : pmem s x) : x < N := by
  obtain ⟨p, hp, z⟩ := hx
  have := h p hp; omega
theorem bound_of {s : PSet} (hs : Canon s) {N : Nat} (h : ∀ x, pmem s x → x < (N : Int)) : ∀ p ∈ s, p.2 < (N : Int) := fun p hp => h p.2 ⟨p, hp, (hs.1 p hp).2, Int.le_refl _⟩
theorem psize_split {s t u : PSet} (hs : Canon s) (ht : Canon t) (hu : Canon u) (h : ∀ x, pmem s x ↔ pmem t x ∨ pmem u x) (hd : ∀ x, ¬ (pmem t x ∧ pmem u x)) : psize s = psize t + psize u := by
  obtain ⟨N, hN⟩ := bound s
  rw [← cntP_eq hs N hN, ← cntP_eq ht N (bound_of ht fun x hx => pmem_bound hN ((h x).mpr (.inl hx))), ← cntP_eq hu N (bound_of hu fun x hx => pmem_bound hN ((h x).mpr (.inr hx)))]
  have : cntP s N = cntP t N + cntP u N := by
    unfold cntP
    rw [← countP_or]
    · refine List.countP_congr fun x _ => ?_
      simp [h]
    · rintro x _ ⟨z1, z2⟩
      exact hd x ⟨by simpa using z1, by simpa using z2⟩
  omega
def pmove (s : PSet) (k : Int) : PSet := s.map fun p => (p.1 + k, p.2 + k)
theorem pmove_mem {s : PSet} {k x : Int} : pmem (pmove s k) x ↔ pmem s (x - k) := by
  unfold pmem pmove
  constructor
  · rintro ⟨p, hp, z⟩
    obtain ⟨q, hq, rfl⟩ := List.mem_map.mp hp
    simp only at z
    exact ⟨q, hq, by omega⟩
  · rintro ⟨p, hp, z⟩
    exact ⟨_, List.mem_map.mpr ⟨p, hp, rfl⟩, by simp only; omega⟩
theorem pmove_canon {s : PSet} {k : Int} (h : Canon s) (hk : 0 ≤ k) : Canon (pmove s k) := by
  unfold pmove
  refine ⟨fun p hp => ?_, List.pairwise_map.mpr (h.2.imp fun z => by simp only; omega)⟩
  obtain ⟨q, hq, rfl⟩ := List.mem_map.mp hp
  have := h.1 q hq
  simp only; omega
theorem canon_app {s t : PSet} (hs : Canon s) (ht : Canon t) : Canon (pmerge (s ++ t)) ∧ ∀ x, pmem (pmerge (s ++ t)) x ↔ pmem s x ∨ pmem t x := by
  obtain ⟨a, b⟩ := pmerge_ok (s := s ++ t) fun p hp => (List.mem_append.mp hp).elim (hs.1 p) (ht.1 p)
  exact ⟨a, fun x => (b x).trans pmem_append⟩
theorem canon_app_len {s t : PSet} : (pmerge (s ++ t)).length ≤ s.length + t.length := Nat.le_trans (pmerge_len _) (by rw [List.length_append]; exact Nat.le_refl _)
theorem zip_gap : ∀ {s : PSet}, (s.Pairwise fun p q => p.2 + 1 < q.1) → ∀ q ∈ s.zip (s.drop 1), q.1.2 + 1 < q.2.1
  | [], _, q, h => (nomatch h)
  | [p], _, q, h => (by simp at h)
  | p :: r :: s, hp, q, h => by
    rw [List.drop_succ_cons, List.drop_zero, List.zip_cons_cons] at h
    rcases List.mem_cons.mp h with rfl | h
    · exact (List.pairwise_cons.mp hp).1 r (.head _)
    · exact zip_gap (List.pairwise_cons.mp hp).2 q (by rw [List.drop_succ_cons, List.drop_zero]; exact h)
theorem canonB_of {s : PSet} (h : Canon s) : canonB s = true := by
  unfold canonB
  rw [Bool.and_eq_true, List.all_eq_true, List.all_eq_true]
  exact ⟨fun p hp => decide_eq_true (h.1 p hp), fun q hq => decide_eq_true (zip_gap h.2 q hq)⟩
end Co

namespace Co
open PySem PySem.Spec PyProof.Rows L2
/-- the pot's places -/
def PotD (c : Nat) (d : D) : Prop := ∃ a b n, d = .lst [.int a, .int b, .int n] ∧ okPot c 0 a ∧ okPot c 1 b ∧ okPot c 2 n
theorem ite01 (b : Bool) : -(2 ^ 64) < (if b = true then (1 : Int) else 0) ∧ (if b = true then (1 : Int) else 0) < 2 ^ 64 := by cases b <;> decide
theorem own_ok (x : Int) (b : Bool) : okPot 0 0 (x % ((10 : Int) ^ Int.toNat 60) ^ Int.toNat 5 * (if b = true then 1 else 0)) := by
  have p0 : (0 : Int) < ((10 : Int) ^ Int.toNat 60) ^ Int.toNat 5 := by decide +kernel
  have e : ((10 : Int) ^ Int.toNat 60) ^ Int.toNat 5 = 10 ^ 300 := by decide +kernel
  have h1 := Int.emod_nonneg x (Int.ne_of_gt p0)
  have h2 := Int.emod_lt_of_pos x p0
  have h3 : (0 : Int) < 10 ^ 300 := by decide +kernel
  generalize x % ((10 : Int) ^ Int.toNat 60) ^ Int.toNat 5 = r at *
  rw [e] at h2
  clear e p0
  cases b
  · rw [if_neg Bool.false_ne_true, Int.mul_zero]; exact ⟨Int.le_refl _, h3⟩
  · rw [if_pos rfl, Int.mul_one]; exact ⟨h1, h2⟩
section
variable {P : Program} {w : World} {K : PySem.W.Frag} {mg : Str → Option Value} {base : Heap}
theorem g_pot (T : Tx K mg) : Gd P w K mg base "_law_pot" 1 (SpF (fun s : D × List Int × Nat => [s.1, .int s.2.2]) (fun s => ScD K s.1 s.2.1 ∧ s.2.2 < 1000) fun s d => PotD 0 d) := by
  obtain ⟨f, fd, F, hm⟩ := T.f__law_pot
  refine gd_of F (ok_def F sc__law_pot (fun _ => rfl) fun s hs cdv A outer sh H E hr => ?_) hm fun _ _ _ _ _ _ us hl => match us, hl with | [_, _], _ => rfl
  have nd := sc__law_pot.nd
  obtain ⟨hsc, hk⟩ := hs
  obtain ⟨d, ns, k⟩ := s
  simp only at hsc hk
  have nl := T.n_len
  refine ss_cons (s_set 2 ?_)
  walk_at "go"
  -- the rest, by the cell
  have rest : ∀ cell : Int, PSsv (cxB P w K mg base N__law_pot "_law_pot" s__law_pot f cdv A outer sh H E) W0 () [.val d, .val (.int (k : Int)), .val (.int cell), .no] ((defBody s__law_pot).drop 2) { nx := fun _ _ => PotD 0 .non, rt := fun d _ => PotD 0 d } := fun cell => by
    refine ss_cons (s_set 3 ?_)
    walk_at "go"
    refine ev_callB (id := "abs") T.n_abs ?_
    walk_at "go"
    refine cd_abs ?_
    walk_at "go"
    refine ev_callTy (T := "int") T.n_int ?_
    walk_at "go"
    refine ev_callB (id := "abs") T.n_abs ?_
    walk_at "go"
    refine cd_abs ?_
    walk_at "go"
    refine cd_intB (od_mulR (ite01 _).1 (ite01 _).2 ?_)
    refine ss_one (s_ret ?_)
    walk_at "go"
    refine od_mulR (by omega) (by omega) ?_
    walk_at "go"
    refine ⟨_, _, _, rfl, ?_, ?_, ⟨by decide, by decide⟩⟩
    · exact own_ok _ _
    · refine ⟨Int.emod_nonneg _ (by decide), ?_⟩
      refine Int.lt_of_lt_of_le (Int.emod_lt_of_pos _ (by decide)) (by decide)
  refine ss_cons (s_if (tv_cmp ?_))
  walk_at "go"
  refine cd_lenSc hsc ?_
  walk_at "go"
  refine ⟨fun hc => ss_one (s_set 2 (ev_ixSc ?_)), fun _ => ss_nil (rest _)⟩
  walk_at "go"
  have hlt : k < ns.length := by have := of_decide_eq_true hc; simp only at this; omega
  refine ⟨ns, hsc, ?_⟩
  walk_at "go"
  exact ⟨_, _, rfl, atI_nat (List.getElem?_eq_getElem hlt), rest _⟩
theorem g_take (T : Tx K mg) : Gd P w K mg base "_law_take" 1 (SpW potW (fun p (b : Int) => [.ref p, .int b]) (fun b c => 0 < b ∧ b < 2 ^ 200 ∧ c < 2 ^ 60) fun b c d c' => c' ≤ c + 1 ∧ ∃ r, d = .int r ∧ 0 ≤ r ∧ r < b) := by
  obtain ⟨f, fd, F, hm⟩ := T.f__law_take
  refine gd_of F (ok_defW F sc__law_take (fun _ _ => rfl) fun p b c hs cdv A outer sh H E hr => ?_) hm fun _ _ _ _ _ _ us hl => match us, hl with | [_, _], _ => rfl
  have nd := sc__law_take.nd
  obtain ⟨hb, hb2, hc⟩ := hs
  refine ss_cons (s_if (tv_cmp (eb (ev_pot 0 (by decide) (h := fun v hv => ?_)))))
  walk_at "go"
  refine ⟨fun _ => ?_, fun _ => ss_nil ?_⟩
  · refine ss_cons (s_set 2 (ev_bin (eb (ev_pot 0 (by decide) (h := fun v hv => ?_)))))
    walk_at "go"
    refine od_mod hb (ss_cons ?_)
    refine s_pot 0 (by decide) (c' := c) ?_
    refine ev_bin (eb (ev_pot 0 (by decide) (h := fun v2 hv2 => ?_)))
    walk_at "go"
    refine od_div hb (by omega) ⟨rfl, Nat.le_refl _, _, rfl, ⟨Int.ediv_nonneg hv2.1 (Int.le_of_lt hb), ?_⟩, ss_one (s_ret ?_)⟩
    · exact Int.lt_of_le_of_lt (Int.ediv_le_self _ hv2.1) hv2.2
    · walk_at "go"
      exact ⟨Nat.le_succ _, _, rfl, Int.emod_nonneg _ (by omega), Int.emod_lt_of_pos _ hb⟩
  · refine ss_cons ?_
    refine s_pot 2 (by decide) (c' := c + 1) ?_
    refine ev_bin (eb (ev_pot 2 (by decide) (h := fun v hv => ?_)))
    walk_at "go"
    refine ⟨rfl, Nat.le_succ _, _, rfl, ⟨by have := hv.1; omega, by have := hv.2; omega⟩, ?_⟩
    refine ss_cons (s_set 3 ?_)
    walk_at "go"
    intro v1 hv1
    walk_at "go"
    intro v2 hv2
    walk_at "go"
    intro v3 hv3
    have h3 := hv3.1
    have h4 := hv3.2
    refine od_mulR (by omega) (by omega) ?_
    walk_at "go"
    generalize eb : (v1 + 20011 * v2 * v3 + 23) * 71011 % 2305843009213693921 = bl at *
    have b1 : 0 ≤ bl := by rw [← eb]; exact Int.emod_nonneg _ (by decide)
    have b2 : bl < 2305843009213693921 := by rw [← eb]; exact Int.emod_lt_of_pos _ (by decide)
    refine ss_cons (s_set 3 ?_)
    walk_at "go"
    intro v4 hv4
    walk_at "go"
    refine od_mulL (by omega) (by omega) ?_
    walk_at "go"
    refine ss_one (s_ret ?_)
    walk_at "go"
    refine od_mod hb ⟨Nat.le_refl _, _, rfl, Int.emod_nonneg _ (by omega), Int.emod_lt_of_pos _ hb⟩
theorem g_of (T : Tx K mg) : Gd P w K mg base "_law_of" 2 (SpW potW (fun p (s : D × List D) => [.ref p, s.1]) (fun s c => Seqd s.1 = some s.2 ∧ s.2 ≠ [] ∧ s.2.length < 2 ^ 60 ∧ c < 2 ^ 60) fun s c d c' => c' ≤ c + 1 ∧ d ∈ s.2) := by
  obtain ⟨f, fd, F, hm⟩ := T.f__law_of
  refine gd_of F (ok_defW F sc__law_of (fun _ _ => rfl) fun p s c hs cdv A outer sh H E hr => ?_) hm fun _ _ _ _ _ _ us hl => match us, hl with | [_, _], _ => rfl
  have nd := sc__law_of.nd
  obtain ⟨d, ds⟩ := s
  obtain ⟨h1, h2, h3, h4⟩ := hs
  simp only at h1 h2 h3 h4
  have hl : 0 < ds.length := List.length_pos_iff.mpr h2
  have nl := T.n_len
  refine ss_one (s_ret (ev_ix (eb (ev_nm (h := ⟨ds, h1, ?_⟩)))))
  refine ev_callW p (g_take T) (hr.mono (by decide)) (av_cons (ev_nm (h := av_cons (ev_callB (id := "len") nl (ab_cons (eb (ev_nm (h := ab_nil (cd_len h1 (av_nil ?_))))))))))
  refine ⟨_, rfl, ⟨by omega, by omega, h4⟩, ?_⟩
  rintro _ c' ⟨hc, r, rfl, r1, r2⟩
  have hr : r.toNat < ds.length := by omega
  refine ⟨_, ds[r.toNat], rfl, ?_, hc, List.getElem_mem _⟩
  have e := atI_nat (List.getElem?_eq_getElem hr)
  rw [Int.toNat_of_nonneg r1] at e
  exact e
end
end Co

namespace Co
open PySem PySem.Spec PyProof.Rows L2
theorem canon_snoc {s : PSet} {a b : Int} (h : Canon s) (ha : 0 ≤ a) (hab : a ≤ b) (hl : ∀ r ∈ s, r.2 + 1 < a) : Canon (s ++ [(a, b)]) :=
  ⟨fun p hp => (List.mem_append.mp hp).elim (h.1 p) fun z => by rw [List.mem_singleton.mp z]; exact ⟨ha, hab⟩,
    List.pairwise_append.mpr ⟨h.2, List.pairwise_singleton _ _, fun p hp q hq => by rw [List.mem_singleton.mp hq]; exact hl p hp⟩⟩
section
variable {P : Program} {w : World} {K : PySem.W.Frag} {mg : Str → Option Value} {base : Heap}
theorem g_great (T : Tx K mg) : Gd P w K mg base "_law_great" 3 (SpW potW (fun p (many : Nat) => [.ref p, .int many]) (fun many c => many ≤ 5000 ∧ c < 2 ^ 40) fun many c d c' => c' ≤ c + 2 + 4 * many ∧ ∃ s, d = setD s ∧ Canon s ∧ s.length ≤ many) := by
  obtain ⟨f, fd, F, hm⟩ := T.f__law_great
  refine gd_of F (ok_defW F sc__law_great (fun _ _ => rfl) fun p many c hs cdv A outer sh H E hr => ?_) hm fun _ _ _ _ _ _ us hl => match us, hl with | [_, _], _ => rfl
  have nd := sc__law_great.nd
  obtain ⟨hm, hc⟩ := hs
  refine ss_cons (s_parO 2 3 (ef_lst (av_nil ⟨sz (by decide), ?_⟩)))
  refine ev_callW p (g_take T) (hr.mono (by decide)) ?_
  walk_at "go"
  refine ⟨⟨by decide +kernel, by decide +kernel, by omega⟩, ?_⟩
  rintro _ c1 ⟨hc1, pl0, rfl, q1, q2⟩ q
  refine ss_cons (s_for (fun i ρ c2 => c2 ≤ c + 2 + 4 * i ∧ ∃ s pl y z, ρ = [.val (.ref p), .val (.int (many : Int)), .own q (s.map pD), .val (.int pl), y, z] ∧ Canon s ∧ s.length = i ∧ 0 ≤ pl ∧ ∀ r ∈ s, r.2 + 1 < pl) (iv_range1 T.n_range ?_))
  refine ev_callW p (g_take T) (hr.mono (by decide)) ?_
  walk_at "go"
  refine ⟨⟨by omega, by omega, by omega⟩, ?_⟩
  rintro _ c2 ⟨hc2, n, rfl, n1, n2⟩
  refine ⟨n, rfl, by omega, by omega, ⟨by omega, [], pl0, _, _, rfl, .nil, rfl, q1, fun _ h => (nomatch h)⟩, fun i d ρ3 c3 hd hi => ?_, fun ρ3 c3 hi => ?_⟩
  · obtain ⟨hc3, s, pl, y, z, rfl, hs, hl, hp, hg⟩ := hi
    have hi : i < n.toNat := by
      have := (List.getElem?_eq_some_iff.mp hd).1
      rw [ints_len] at this
      exact this
    obtain ⟨_, ed⟩ := ints_get hd
    subst ed
    walk_at "gv"
    refine ss_cons (s_set 5 ?_)
    walk_at "go"
    refine ev_callW p (g_of T) (hr.mono (by decide)) ?_
    walk_at "go"
    refine ev_callW p (g_take T) (hr.mono (by decide)) ?_
    walk_at "go"
    refine ⟨⟨by decide +kernel, by decide +kernel, by omega⟩, ?_⟩
    rintro _ c4 ⟨hc4, r1, rfl, h1, h2⟩
    walk_at "go"
    refine ⟨(_, _), rfl, ⟨rfl, by simp, by show 3 < 2 ^ 60; decide, by omega⟩, ?_⟩
    rintro d5 c5 ⟨hc5, hd5⟩
    obtain ⟨a, rfl, ha⟩ : ∃ a, d5 = D.int a ∧ 0 ≤ a := by
      simp only [List.mem_cons, List.not_mem_nil, or_false] at hd5
      rcases hd5 with rfl | rfl | rfl
      · exact ⟨_, rfl, by decide⟩
      · exact ⟨_, rfl, by decide⟩
      · exact ⟨_, rfl, h1⟩
    walk_at "go"
    refine ss_cons (s_append 2 rfl ?_)
    walk_at "go"
    refine ⟨by rw [List.length_map]; show s.length < sizeLine; rw [hl, sizeLine_eq]; omega, ss_one (s_set 3 ?_)⟩
    walk_at "go"
    refine ev_callW p (g_of T) (hr.mono (by decide)) ?_
    walk_at "go"
    refine ev_callW p (g_take T) (hr.mono (by decide)) ?_
    walk_at "go"
    refine ⟨⟨by decide +kernel, by decide +kernel, by omega⟩, ?_⟩
    rintro _ c6 ⟨hc6, r2, rfl, h3, h4⟩
    walk_at "go"
    refine ⟨(_, _), rfl, ⟨rfl, by simp, by show 3 < 2 ^ 60; decide, by omega⟩, ?_⟩
    rintro d7 c7 ⟨hc7, hd7⟩
    obtain ⟨b, rfl, hb⟩ : ∃ a, d7 = D.int a ∧ 0 ≤ a := by
      simp only [List.mem_cons, List.not_mem_nil, or_false] at hd7
      rcases hd7 with rfl | rfl | rfl
      · exact ⟨_, rfl, by decide⟩
      · exact ⟨_, rfl, by decide⟩
      · exact ⟨_, rfl, h3⟩
    walk_at "go"
    refine ⟨by omega, s ++ [(pl, pl + a)], pl + a + 2 + b, _, _, by rw [List.map_append]; rfl, canon_snoc hs hp (by omega) hg, by rw [List.length_append, hl]; rfl, by omega, fun r hr => ?_⟩
    rcases List.mem_append.mp hr with z | z
    · have := hg r z; omega
    · rw [List.mem_singleton.mp z]; show pl + a + 1 < _; omega
  · obtain ⟨hc3, s, pl, y, z, rfl, hs, hl, hp, hg⟩ := hi
    rw [ints_len] at hc3 hl
    refine ss_freeze 2 rfl (ss_one (s_ret ?_))
    refine ev_callTy (T := "tuple") T.n_tuple ?_
    walk_at "go"
    refine cd_tuple rfl ⟨by omega, s, rfl, hs, by omega⟩
theorem g_moved (T : Tx K mg) : Gd P w K mg base "_law_moved" 1 (SpF (fun s : PSet × Int => [setD s.1, .int s.2]) (fun _ => True) fun s d => d = setD (pmove s.1 s.2)) := by
  obtain ⟨f, fd, F, hm⟩ := T.f__law_moved
  refine gd_of F (ok_def F sc__law_moved (fun _ => rfl) fun s hs cdv A outer sh H E hr => ?_) hm fun _ _ _ _ _ _ us hl => match us, hl with | [_, _], _ => rfl
  have nd := sc__law_moved.nd
  refine ss_one (s_ret (ev_callTy (T := "tuple") T.n_tuple (ab_cons (eb ?_))))
  refine ev_lc [("_law_first", 2), ("_law_last", 3)] _ (lcM s.1 pD (fun p => pD (p.1 + s.2, p.2 + s.2)) (iv_tup ?_) (fun p hp _ _ _ _ _ => ?_) ?_)
  · walk_at "go"
    exact fun hz => ⟨rfl, rfl, hz⟩
  · walk_at "gv"
    refine ⟨rfl, rfl, fun _ _ _ _ _ => ?_⟩
    walk_at "go"
    exact ⟨rfl, rfl⟩
  · walk_at "go"
    refine cd_tuple rfl ?_
    rw [setD, pmove, List.map_map]; rfl
end
end Co

namespace Co
open PySem PySem.Spec PyProof.Rows L2
theorem setD_inj {s t : PSet} : setD s = setD t ↔ s = t := ⟨fun h => by unfold setD at h; injection h with h; exact pDs_inj h, fun h => by rw [h]⟩
theorem asc_out {t : PSet} (ht : Canon t) (a b : Int) : Asc (pout t a b) := (pout_ok ht.2 a b).2.1
section
variable {γ : Type} {X : Cx} {W : Wd γ} {g : γ} {ρ : Sl} {p : Pos} {e1 e2 : Expr} {pos : Pos} {φ : D → γ → Prop} {P : Program} {K : PySem.W.Frag} {mg : Str → Option Value}
/-- union, common, difference of position sets -/
theorem ev_union (T : Tx X.K X.mg) {k : Nat} (hr : Room k X.A) (hk : 2 ≤ k) (h : PAv X W g ρ [e1, e2] fun ds g' => ∃ s t, ds = [setD s, setD t] ∧ s.length + t.length ≤ 1000000 ∧ φ (setD (pmerge (s ++ t))) g')
    (hg : Gl X "union" := by rfl) (he : starEach (e1 :: [e2]) X.env = (false, eval e1 X.env) :: starEach [e2] X.env := by rfl) (hpl : (backTo pos (starEach [e2] X.env)).any (·.1) = false := by rfl) : PEv X W g ρ (.Call (.Name "union" p) [e1, e2] [] pos) φ :=
  ev_call (g_union T) (hr.mono hk) (PAv.imp h fun ds g' ⟨s, t, e, hl, q⟩ => ⟨(s, t), e, by rw [sizeLine_eq]; show s.length + t.length ≤ _; omega, fun d hd => by rw [hd]; exact q⟩) hg (by decide) he hpl
theorem ev_common (T : Tx X.K X.mg) {k : Nat} (hr : Room k X.A) (hk : 2 ≤ k) (h : PAv X W g ρ [e1, e2] fun ds g' => ∃ s t, ds = [setD s, setD t] ∧ Canon s ∧ Canon t ∧ s.length + t.length ≤ 1000000 ∧ φ (setD (pcommon s t)) g')
    (hg : Gl X "common" := by rfl) (he : starEach (e1 :: [e2]) X.env = (false, eval e1 X.env) :: starEach [e2] X.env := by rfl) (hpl : (backTo pos (starEach [e2] X.env)).any (·.1) = false := by rfl) : PEv X W g ρ (.Call (.Name "common" p) [e1, e2] [] pos) φ :=
  ev_call (g_common T) (hr.mono hk) (PAv.imp h fun ds g' ⟨s, t, e, hs, ht, hl, q⟩ => ⟨(s, t), e, ⟨hs.asc, ht.asc, by rw [sizeLine_eq]; show s.length + t.length < _; omega⟩, fun d hd => by rw [hd]; exact q⟩) hg (by decide) he hpl
theorem ev_difference (T : Tx X.K X.mg) {k : Nat} (hr : Room k X.A) (hk : 3 ≤ k) (h : PAv X W g ρ [e1, e2] fun ds g' => ∃ s t, ds = [setD s, setD t] ∧ Canon s ∧ Canon t ∧ s.length + t.length ≤ 1000000 ∧ φ (setD (pdiff s t)) g')
    (hg : Gl X "difference" := by rfl) (he : starEach (e1 :: [e2]) X.env = (false, eval e1 X.env) :: starEach [e2] X.env := by rfl) (hpl : (backTo pos (starEach [e2] X.env)).any (·.1) = false := by rfl) : PEv X W g ρ (.Call (.Name "difference" p) [e1, e2] [] pos) φ :=
  ev_call (g_difference T) (hr.mono hk) (PAv.imp h fun ds g' ⟨s, t, e, hs, ht, hl, q⟩ => ⟨(s, t), e, ⟨hs.asc, asc_out ht, by rw [sizeLine_eq]; show s.length + t.length + 1 < _; omega⟩, fun d hd => by rw [hd]; exact q⟩) hg (by decide) he hpl
end
theorem od_neSet {X : Cx} {ψ : D → Prop} {s t : PSet} (hu : X.A.units + 64 < cLine) (h : ψ (.bl (!decide (s = t)))) : OpD X (compareOp .NotEq) (setD s) (setD t) ψ := od_neG (n := 2) hu (fitS s) (fitS t) (nbS s) (nbS t) setD_inj (by decide) h

section
variable {P : Program} {w : World} {K : PySem.W.Frag} {mg : Str → Option Value} {base : Heap}
theorem g_right (T : Tx K mg) : Gd P w K mg base "_law_right" 4 (SpF (fun s : PSet × PSet × Int => [setD s.1, setD s.2.1, .int s.2.2]) (fun s => Canon s.1 ∧ Canon s.2.1 ∧ s.1.length ≤ 10000 ∧ s.2.1.length ≤ 10000 ∧ 0 ≤ s.2.2) fun s d => d = .bl true) := by
  obtain ⟨f, fd, F, hm⟩ := T.f__law_right
  refine gd_of F (ok_def F sc__law_right (fun _ => rfl) fun s hs cdv A outer sh H E hr => ?_) hm fun _ _ _ _ _ _ us hl => match us, hl with | [_, _, _], _ => rfl
  have nd := sc__law_right.nd
  obtain ⟨s, t, k⟩ := s
  obtain ⟨hs, ht, ls, lt, hk⟩ := hs
  simp only at hs ht ls lt hk
  have hu := hr.units
  have hr3 : Room 3 _ := hr
  -- what is found
  obtain ⟨cW, mW⟩ := canon_app hs ht
  obtain ⟨cB, mB⟩ := pcommon_ok hs ht.asc
  obtain ⟨cO, mO⟩ := pdiff_ok hs ht
  have lW := canon_app_len (s := s) (t := t)
  have lB := pcommon_len hs.asc ht.asc
  have lO := pdiff_len hs ht
  have eW : pmerge (t ++ s) = pmerge (s ++ t) := canon_ext (canon_app ht hs).1 cW fun x => ((canon_app ht hs).2 x).trans (Or.comm.trans (mW x).symm)
  have eB : pcommon t s = pcommon s t := canon_ext (pcommon_ok ht hs.asc).1 cB fun x => ((pcommon_ok ht hs.asc).2 x).trans (And.comm.trans (mB x).symm)
  have eS : pmerge (pcommon s t ++ pdiff s t) = s := canon_ext (canon_app cB cO).1 hs fun x => by
    rw [(canon_app cB cO).2 x, mB x, mO x]
    by_cases h : pmem t x <;> simp [h]
  have z1 : psize s = psize (pcommon s t) + psize (pdiff s t) := psize_split hs cB cO (fun x => by
    rw [mB x, mO x]
    by_cases h : pmem t x <;> simp [h]) fun x => by
      rw [mB x, mO x]
      rintro ⟨a, b⟩; exact b.2 a.2
  obtain ⟨cV, mV⟩ := pdiff_ok ht hs
  have z2 : psize (pmerge (s ++ t)) = psize s + psize (pdiff t s) := psize_split cW hs cV (fun x => by
    rw [mW x, mV x]
    by_cases h : pmem s x <;> simp [h]) fun x => by
      rw [mV x]
      rintro ⟨a, b⟩; exact b.2 a
  have z3 : psize t = psize (pcommon s t) + psize (pdiff t s) := psize_split ht cB cV (fun x => by
    rw [mB x, mV x]
    by_cases h : pmem s x <;> simp [h]) fun x => by
      rw [mB x, mV x]
      rintro ⟨a, b⟩; exact b.2 a.1
  have e1 : pcommon (pdiff s t) t = [] := canon_ext (pcommon_ok cO ht.asc).1 .nil fun x => by
    rw [(pcommon_ok cO ht.asc).2 x, mO x]
    simp [pmem_nil]
  have e2 : pdiff (pmerge (s ++ t)) t = pdiff s t := canon_ext (pdiff_ok cW ht).1 cO fun x => by
    rw [(pdiff_ok cW ht).2 x, mO x, mW x]
    by_cases h : pmem t x <;> simp [h]
  have e3 : pdiff s s = [] := canon_ext (pdiff_ok hs hs).1 .nil fun x => by
    rw [(pdiff_ok hs hs).2 x]
    simp [pmem_nil]
  have cs := pmove_canon hs hk
  have ct := pmove_canon ht hk
  have ms : (pmove s k).length = s.length := by rw [pmove, List.length_map]
  have mt : (pmove t k).length = t.length := by rw [pmove, List.length_map]
  have v1 : pmerge (pmove s k ++ pmove t k) = pmove (pmerge (s ++ t)) k := canon_ext (canon_app cs ct).1 (pmove_canon cW hk) fun x => by
    rw [(canon_app cs ct).2 x, pmove_mem, pmove_mem, pmove_mem, mW]
  have v2 : pcommon (pmove s k) (pmove t k) = pmove (pcommon s t) k := canon_ext (pcommon_ok cs ct.asc).1 (pmove_canon cB hk) fun x => by
    rw [(pcommon_ok cs ct.asc).2 x, pmove_mem, pmove_mem, pmove_mem, mB]
  have v3 : pdiff (pmove s k) (pmove t k) = pmove (pdiff s t) k := canon_ext (pdiff_ok cs ct).1 (pmove_canon cO hk) fun x => by
    rw [(pdiff_ok cs ct).2 x, pmove_mem, pmove_mem, pmove_mem, mO]
  generalize hW : pmerge (s ++ t) = W at *
  generalize hB : pcommon s t = B at *
  generalize hO : pdiff s t = O at *
  -- the text
  refine ss_cons (s_par3 3 4 5 (ev_union T hr3 (by decide) ?_))
  walk_at "go"
  refine ⟨s, t, rfl, by omega, ev_common T hr3 (by decide) ?_⟩
  walk_at "go"
  refine ⟨s, t, rfl, hs, ht, by omega, ev_difference T hr3 (by decide) ?_⟩
  walk_at "go"
  refine ⟨s, t, rfl, hs, ht, by omega, ?_⟩
  rw [hW, hB, hO]
  refine ss_cons (s_if (tv_not (tv_val (ev_callB (id := "all") T.n_all (ab_cons (eb ?_))))))
  refine ev_lc [("_law_some", 9)] _ (lcM [W, B, O] setD (fun p => .bl true) (iv_tup ?_) (fun p hp _ _ _ _ _ => ?_) ?_)
  · walk_at "go"
    exact fun hz => ⟨rfl, rfl, hz⟩
  · walk_at "gv"
    refine ⟨rfl, rfl, fun _ _ _ _ _ => ev_call (g_is_position_set T) (hr3.mono (by decide)) ?_⟩
    walk_at "go"
    refine ⟨trivial, fun d hd => ⟨?_, rfl⟩⟩
    rw [hd, canonB_of]
    simp only [List.mem_cons, List.not_mem_nil, or_false] at hp
    rcases hp with rfl | rfl | rfl <;> assumption
  walk_at "go"
  refine cd_all (ns := [true, true, true]) rfl ⟨true, rfl, fun h => (by cases h), fun _ => ss_nil ?_⟩
  -- the same the other way round
  refine ss_cons (s_if (tv_w (wv_or (tv_cmp (eb (ev_union T hr3 (by decide) ?_))))))
  walk_at "go"
  refine ⟨t, s, rfl, by omega, ?_⟩
  walk_at "go"
  rw [eW]
  refine od_neSet hu ⟨false, by simp, fun _ => wv_or (tv_cmp (eb (ev_common T hr3 (by decide) ?_))), fun h => (by cases h)⟩
  walk_at "go"
  refine ⟨t, s, rfl, ht, hs, by omega, ?_⟩
  walk_at "go"
  rw [eB]
  refine od_neSet hu ⟨false, by simp, fun _ => wv_or1 (tv_cmp (eb (ev_union T hr3 (by decide) ?_))), fun h => (by cases h)⟩
  walk_at "go"
  refine ⟨B, O, rfl, by omega, ?_⟩
  walk_at "go"
  rw [eS]
  refine od_neSet hu ⟨false, by simp, fun h => (by cases h), fun _ => ss_nil ?_⟩
  -- sizes
  refine ss_cons (s_if (tv_w (wv_or (tv_cmp (eb (ev_bin (eb (ev_call (g_size T) (hr3.mono (by decide)) ?_))))))))
  walk_at "go"
  refine ⟨trivial, ?_⟩
  rintro _ rfl
  refine eb (ev_call (g_size T) (hr3.mono (by decide)) ?_)
  walk_at "go"
  refine ⟨trivial, ?_⟩
  rintro _ rfl
  walk_at "go"
  refine ev_call (g_size T) (hr3.mono (by decide)) ?_
  walk_at "go"
  refine ⟨trivial, ?_⟩
  rintro _ rfl
  refine od_neI ⟨false, by simp [z1], fun _ => wv_or1 (tv_cmp (eb (ev_call (g_size T) (hr3.mono (by decide)) ?_))), fun h => (by cases h)⟩
  walk_at "go"
  refine ⟨trivial, ?_⟩
  rintro _ rfl
  walk_at "go"
  refine ev_call (g_size T) (hr3.mono (by decide)) ?_
  walk_at "go"
  refine ⟨trivial, ?_⟩
  rintro _ rfl
  refine eb (ev_call (g_size T) (hr3.mono (by decide)) ?_)
  walk_at "go"
  refine ⟨trivial, ?_⟩
  rintro _ rfl
  walk_at "go"
  refine ev_call (g_size T) (hr3.mono (by decide)) ?_
  walk_at "go"
  refine ⟨trivial, ?_⟩
  rintro _ rfl
  refine od_sub (od_neI ⟨false, ?_, fun h => (by cases h), fun _ => ss_nil ?_⟩)
  · rw [decide_eq_true (by show psize W = psize s + psize t - psize B; omega)]; rfl
  -- what is empty
  refine ss_cons (s_if (tv_w (wv_or (tv_cmp (eb (ev_common T hr3 (by decide) ?_))))))
  walk_at "go"
  refine ⟨O, t, rfl, cO, ht, by omega, ?_⟩
  walk_at "go"
  rw [e1]
  refine od_neSet (t := []) hu ⟨false, by simp, fun _ => wv_or (tv_cmp (eb (ev_difference T hr3 (by decide) ?_))), fun h => (by cases h)⟩
  walk_at "go"
  refine ⟨W, t, rfl, cW, ht, by omega, ?_⟩
  walk_at "go"
  rw [e2]
  refine od_neSet hu ⟨false, by simp, fun _ => wv_or1 (tv_cmp (eb (ev_difference T hr3 (by decide) ?_))), fun h => (by cases h)⟩
  walk_at "go"
  refine ⟨s, s, rfl, hs, hs, by omega, ?_⟩
  walk_at "go"
  rw [e3]
  refine od_neSet (t := []) hu ⟨false, by simp, fun h => (by cases h), fun _ => ss_nil ?_⟩
  -- moved
  refine ss_cons (s_par 6 7 (ev_call (g_moved T) (hr3.mono (by decide)) ?_))
  walk_at "go"
  refine ⟨(s, k), rfl, trivial, ?_⟩
  rintro _ rfl
  refine ev_call (g_moved T) (hr3.mono (by decide)) ?_
  walk_at "go"
  refine ⟨trivial, ?_⟩
  rintro _ rfl
  refine ss_cons (s_set 8 (ev_lst (av_cons (ev_union T hr3 (by decide) ?_))))
  walk_at "go"
  refine ⟨pmove s k, pmove t k, rfl, by omega, av_cons (ev_common T hr3 (by decide) ?_)⟩
  walk_at "go"
  refine ⟨pmove s k, pmove t k, rfl, cs, ct, by omega, av_cons (ev_difference T hr3 (by decide) ?_)⟩
  walk_at "go"
  refine ⟨pmove s k, pmove t k, rfl, cs, ct, by omega, ?_⟩
  walk_at "go"
  rw [v1, v2, v3]
  refine ss_one (s_ret ?_)
  walk_at "go"
  refine ev_lc [("_law_some", 9)] _ (lcM [W, B, O] setD (fun p => setD (pmove p k)) (iv_tup ?_) (fun p hp _ _ _ _ _ => ?_) ?_)
  · walk_at "go"
    exact fun hz => ⟨rfl, rfl, hz⟩
  · walk_at "gv"
    refine ⟨rfl, rfl, fun _ _ _ _ _ => ev_call (g_moved T) (hr3.mono (by decide)) ?_⟩
    walk_at "go"
    exact ⟨(p, k), rfl, trivial, fun d hd => ⟨hd, rfl⟩⟩
  · refine od_eqG (n := 3) (p := True) hu (Fit.lst (Fits.of ?_)) (Fit.lst (Fits.of ?_)) ?_ ?_ ⟨fun _ => trivial, fun _ => rfl⟩ (by decide) ?_
    · simp only [List.mem_cons, List.not_mem_nil, or_false]
      rintro d (rfl | rfl | rfl) <;> exact fitS _
    · simp only [List.map_cons, List.map_nil, List.mem_cons, List.not_mem_nil, or_false]
      rintro d (rfl | rfl | rfl) <;> exact fitS _
    · show D.nbs _ = true
      simp only [D.nbs, nbS, Bool.and_true]
    · show D.nbs _ = true
      simp only [D.nbs, nbS, Bool.and_true, List.map_cons, List.map_nil]
    · rw [decide_eq_true trivial]
end
end Co

namespace Co
open PySem PySem.Spec PyProof.Rows L2
theorem step_canon {s : PSet} {k : Int} (hk : 1 ≤ k) (h : Canon s) : Canon (HT.stepV s k) := ⟨fun p hp => h.1 p (HT.stepV_mem hp), HT.stepV_pair hk h.2⟩
theorem canon_gap {s : PSet} (h : Canon s) {q : Int × Int} (hq : q ∈ s) : pmem s q.1 ∧ pmem s q.2 ∧ ¬ pmem s (q.2 + 1) := by
  have hq2 := (h.1 q hq).2
  refine ⟨⟨q, hq, Int.le_refl _, hq2⟩, ⟨q, hq, hq2, Int.le_refl _⟩, ?_⟩
  rintro ⟨r, hr, z1, z2⟩
  obtain ⟨i, hi, e1⟩ := List.getElem_of_mem hq
  obtain ⟨j, hj, e2⟩ := List.getElem_of_mem hr
  have pw := List.pairwise_iff_getElem.mp h.2
  have hr2 := (h.1 r hr).2
  rcases Nat.lt_trichotomy i j with l | l | l
  · have := pw i j hi hj l
    rw [e1, e2] at this; omega
  · subst l
    rw [e1] at e2; subst e2; omega
  · have := pw j i hj hi l
    rw [e1, e2] at this; omega
theorem nls_ints (ns : List Int) : D.nls (ns.map D.int) = true := by
  induction ns with
  | nil => rfl
  | cons n ns ih => exact ih
theorem nl_sc {K : PySem.W.Frag} {d : D} {ns : List Int} (h : ScD K d ns) : d.nl = true := by
  rcases h with rfl | ⟨a, rfl, _⟩
  · exact nls_ints ns
  · rfl
section
variable {P : Program} {w : World} {K : PySem.W.Frag} {mg : Str → Option Value} {base : Heap}
theorem ok_law (T : Tx K mg) {f : Addr} {fd : FuncData} (F : FnP K "law" "law" s_law f fd) : FnOk P w K mg base CX0 6 f fd ["_law_script"] (SpF LawA (LawP K) fun _ d => d = .bl true) := by
  refine ok_def F sc_law (fun _ => rfl) fun s hs cdv A outer sh H E hr => ?_
  have nd := sc_law.nd
  obtain ⟨d, ns⟩ := s
  obtain ⟨hsc, hlen⟩ := hs
  simp only at hsc hlen
  have nl := T.n_len
  refine ss_cons (s_for (fun i ρ _ => ∃ a b c e f g h, ρ = [.val d, a, b, c, e, f, g, h]) (iv_range1 T.n_range (ev_callB (id := "max") T.n_max ?_)))
  walk_at "go"
  refine ev_callB (id := "min") T.n_min ?_
  walk_at "go"
  refine cd_lenSc hsc ?_
  walk_at "go"
  refine cd_min2 rfl ?_
  walk_at "go"
  refine cd_max2 rfl ⟨_, rfl, by omega, by omega, ⟨_, _, _, _, _, _, _, rfl⟩, fun i d1 ρ1 g1 hd hi => ?_, fun ρ1 g1 hi => ?_⟩
  · obtain ⟨a0, a1, a2, a3, a4, a5, a6, rfl⟩ := hi
    obtain ⟨hi, ed⟩ := ints_get hd
    subst ed
    walk_at "gv"
    refine ss_cons (s_own 2 (ef_call (g_pot T) (hr.mono (by decide)) ?_))
    walk_at "go"
    refine ⟨(d, ns, i), by simp, ?_, ⟨hsc, by show i < 1000; omega⟩, ?_⟩
    · show (d.nl && true) = true
      rw [nl_sc hsc]; rfl
    rintro _ ⟨x0, x1, x2, rfl, o0, o1, o2⟩
    refine ⟨_, rfl, rfl, fun p => ?_⟩
    refine ss_pot (c := 0) 2 rfl o0 o1 o2 ?_
    refine ss_one (s_for (fun j ρ c => c ≤ 50000 * j ∧ ∃ a b c e f, ρ = [.val d, .val (.int (0 + (i : Int))), .val (.ref p), a, b, c, e, f]) (iv_tup ?_))
    walk_at "go"
    refine fun _ => ⟨⟨Nat.zero_le _, _, _, _, _, _, rfl⟩, fun j dm ρ2 c hd hi => ?_, fun ρ2 c hi => ?_⟩
    · obtain ⟨hc, b0, b1, b2, b3, b4, rfl⟩ := hi
      obtain ⟨many, rfl, hj, hm⟩ : ∃ many : Nat, dm = .int many ∧ j < 4 ∧ many ≤ 2500 := by
        match j, hd with
        | 0, hd => exact ⟨3, by cases hd; rfl, by decide, by decide⟩
        | 1, hd => exact ⟨20, by cases hd; rfl, by decide, by decide⟩
        | 2, hd => exact ⟨150, by cases hd; rfl, by decide, by decide⟩
        | 3, hd => exact ⟨2500, by cases hd; rfl, by decide, by decide⟩
        | n + 4, hd => exact absurd hd (by simp)
      walk_at "gv"
      refine ss_cons (s_par 4 5 (ev_callW p (g_great T) (hr.mono (by decide)) ?_))
      walk_at "go"
      refine ⟨⟨by omega, by omega⟩, ?_⟩
      rintro _ c1 ⟨hc1, s, rfl, hs, ls⟩
      refine ev_callW p (g_great T) (hr.mono (by decide)) ?_
      walk_at "go"
      refine ⟨⟨by omega, by omega⟩, ?_⟩
      rintro _ c2 ⟨hc2, t, rfl, ht, lt⟩
      refine ss_cons (s_if (tv_w (wv_or (tv_not (tv_val (ev_call (g_right T) (hr.mono (by decide)) ?_))))))
      walk_at "go"
      refine ev_callW p (g_take T) (hr.mono (by decide)) ?_
      walk_at "go"
      refine ⟨⟨by decide +kernel, by decide +kernel, by omega⟩, ?_⟩
      rintro _ c3 ⟨hc3, k, rfl, k1, k2⟩
      walk_at "go"
      refine ⟨(s, t, k), rfl, ⟨hs, ht, by show s.length ≤ _; omega, by show t.length ≤ _; omega, k1⟩, ?_⟩
      rintro _ rfl
      refine ⟨true, rfl, fun _ => wv_or1 (tv_not (tv_val (ev_call (g_right T) (hr.mono (by decide)) ?_))), fun h => (by cases h)⟩
      walk_at "go"
      refine ev_stepT ?_
      walk_at "go"
      refine ⟨by decide, ?_⟩
      have hs2 := step_canon (k := 2) (by decide) hs
      have ls2 := HT.stepV_len (xs := s) (k := 2) (by decide)
      walk_at "go"
      refine ⟨(s, HT.stepV s 2, 1), by rw [HT.stepV_map]; rfl, ⟨hs, hs2, by show s.length ≤ _; omega, by show (HT.stepV s 2).length ≤ _; omega, by show (0 : Int) ≤ 1; decide⟩, ?_⟩
      rintro _ rfl
      refine ⟨true, rfl, fun h => (by cases h), fun _ => ss_nil ?_⟩
      refine ss_one (s_for (fun j2 ρ c4 => c4 = c3 ∧ ∃ a b, ρ = [.val d, .val (.int (0 + (i : Int))), .val (.ref p), .val (.int (many : Int)), .val (setD s), .val (setD t), a, b]) (iv_tup (ev_stepT ?_)))
      walk_at "go"
      have hk : 1 ≤ 1 + ((s.map pD).length : Int) / 60 := by omega
      refine ⟨hk, ?_⟩
      rw [HT.stepV_map]
      refine ⟨_, rfl, fun _ => ⟨⟨rfl, _, _, rfl⟩, fun j2 d2 ρ4 c4 hd hi => ?_, fun ρ4 c4 hi => ?_⟩⟩
      · obtain ⟨rfl, a, b, rfl⟩ := hi
        rw [List.getElem?_map] at hd
        cases ei : (HT.stepV s (1 + ((s.map pD).length : Int) / 60))[j2]? with
        | none => rw [ei] at hd; cases hd
        | some q =>
          rw [ei] at hd
          cases hd
          have hq : q ∈ s := HT.stepV_mem (List.mem_of_getElem? ei)
          obtain ⟨m1, m2, m3⟩ := canon_gap hs hq
          have nn : ∀ r ∈ s, 0 ≤ r.1 := fun r hr => (hs.1 r hr).1
          walk_at "gv"
          refine ss_one (s_if (tv_w (wv_or (tv_not (tv_val (ev_call (g_contains T) (hr.mono (by decide)) ?_))))))
          walk_at "go"
          refine ⟨(s, q.1), rfl, nn, ?_⟩
          rintro _ rfl
          refine ⟨true, by rw [decide_eq_true m1], fun _ => wv_or (tv_not (tv_val (ev_call (g_contains T) (hr.mono (by decide)) ?_))), fun h => (by cases h)⟩
          walk_at "go"
          refine ⟨(s, q.2), rfl, nn, ?_⟩
          rintro _ rfl
          refine ⟨true, by rw [decide_eq_true m2], fun _ => wv_or1 (tv_val (ev_call (g_contains T) (hr.mono (by decide)) ?_)), fun h => (by cases h)⟩
          walk_at "go"
          refine ⟨(s, q.2 + 1), rfl, nn, ?_⟩
          rintro _ rfl
          refine ⟨false, by rw [decide_eq_false m3], fun h => (by cases h), fun _ => ss_nil ⟨rfl, _, _, rfl⟩⟩
      · obtain ⟨rfl, a, b, rfl⟩ := hi
        exact ⟨by omega, _, _, _, _, _, rfl⟩
    · obtain ⟨hc, b0, b1, b2, b3, b4, rfl⟩ := hi
      exact ⟨_, _, _, _, _, _, _, rfl⟩
  · obtain ⟨a0, a1, a2, a3, a4, a5, a6, rfl⟩ := hi
    exact ss_one (s_ret (ev_bl rfl))
theorem end_law {P : Program} {w : World} {K : PySem.W.Frag} {mg : Str → Option Value} {h : Heap} {fa : Addr} (X : K.In h) (G : h.Ns mainGlobals mg) (hmg : mg ("law" : PySem.Str) = some (.ref fa)) (T : Tx K mg) :
  ∃ (K : PySem.W.Frag) (fd : FuncData) (sp : Sp), K.In h ∧ (∀ (s : Shared) (u : Value), BindsTo s fd ⟨[u], []⟩ [("_law_script", u)]) ∧
        (∀ (H : Hp) (a : Addr) (ns : List Int), ns.length ≤ 63 → Only H → SqL K H a (ns.map V.int) → sp [.ref a] H (fun v _ => v = .bl true) fun _ _ _ => False) ∧
        ∀ base : Heap, K.In base → base.Ns mainGlobals mg → FnOk P w K mg base CX0 6 fa fd ["_law_script"] sp :=
  law_end X hmg T.f_law (fun _ _ _ _ _ _ us hl => match us, hl with | [_], _ => rfl) fun base f fd F => ok_law T F
end
end Co

namespace Co
open PySem PySem.Spec PyProof.Rows L2
/-! ### the head: facts by names, the run -/
def d_is_end : He.DefD := ⟨("is_end", none), "is_end", "is_end", defArgs s_is_end, defBody s_is_end, defScope s_is_end, [], []⟩
def d_is_pair : He.DefD := ⟨("is_pair", none), "is_pair", "is_pair", defArgs s_is_pair, defBody s_is_pair, defScope s_is_pair, [], []⟩
def d_is_position_set : He.DefD := ⟨("is_position_set", none), "is_position_set", "is_position_set", defArgs s_is_position_set, defBody s_is_position_set, defScope s_is_position_set, [], []⟩
def d_merged : He.DefD := ⟨("merged", none), "merged", "merged", defArgs s_merged, defBody s_merged, defScope s_merged, [], []⟩
def d_union : He.DefD := ⟨("union", none), "union", "union", defArgs s_union, defBody s_union, defScope s_union, [], []⟩
def d_common : He.DefD := ⟨("common", none), "common", "common", defArgs s_common, defBody s_common, defScope s_common, [], []⟩
def d_outside : He.DefD := ⟨("outside", none), "outside", "outside", defArgs s_outside, defBody s_outside, defScope s_outside, [], []⟩
def d_difference : He.DefD := ⟨("difference", none), "difference", "difference", defArgs s_difference, defBody s_difference, defScope s_difference, [], []⟩
def d_clipped : He.DefD := ⟨("clipped", none), "clipped", "clipped", defArgs s_clipped, defBody s_clipped, defScope s_clipped, [], []⟩
def d_size : He.DefD := ⟨("size", none), "size", "size", defArgs s_size, defBody s_size, defScope s_size, [], []⟩
def d_contains : He.DefD := ⟨("contains", none), "contains", "contains", defArgs s_contains, defBody s_contains, defScope s_contains, [], []⟩
def d__law_pot : He.DefD := ⟨("_law_pot", none), "_law_pot", "_law_pot", defArgs s__law_pot, defBody s__law_pot, defScope s__law_pot, [], []⟩
def d__law_take : He.DefD := ⟨("_law_take", none), "_law_take", "_law_take", defArgs s__law_take, defBody s__law_take, defScope s__law_take, [], []⟩
def d__law_of : He.DefD := ⟨("_law_of", none), "_law_of", "_law_of", defArgs s__law_of, defBody s__law_of, defScope s__law_of, [], []⟩
def d__law_great : He.DefD := ⟨("_law_great", none), "_law_great", "_law_great", defArgs s__law_great, defBody s__law_great, defScope s__law_great, [], []⟩
def d__law_moved : He.DefD := ⟨("_law_moved", none), "_law_moved", "_law_moved", defArgs s__law_moved, defBody s__law_moved, defScope s__law_moved, [], []⟩
def d__law_right : He.DefD := ⟨("_law_right", none), "_law_right", "_law_right", defArgs s__law_right, defBody s__law_right, defScope s__law_right, [], []⟩
def d_law : He.DefD := ⟨("law", none), "law", "law", defArgs s_law, defBody s_law, defScope s_law, [], []⟩
def fnL : List He.DefD := [d_is_end, d_is_pair, d_is_position_set, d_merged, d_union, d_common, d_outside, d_difference, d_clipped, d_size, d_contains, d__law_pot, d__law_take, d__law_of, d__law_great, d__law_moved, d__law_right, d_law]
def faL : List He.Fa := [.glo "is_end", .glo "is_pair", .glo "is_position_set", .glo "merged", .glo "union", .glo "common", .glo "outside", .glo "difference", .glo "clipped", .glo "size", .glo "contains", .glo "_law_pot", .glo "_law_take", .glo "_law_of", .glo "_law_great", .glo "_law_moved", .glo "_law_right", .glo "law", .int "PAIR" 2, .free "abs", .free "all", .free "any", .free "bool", .free "int", .free "isinstance", .free "len", .free "max", .free "min", .free "range", .free "sorted", .free "sum", .free "tuple", .free "zip"]
def namesL : List PySem.Str := (["PAIR", "is_end", "is_pair", "is_position_set", "merged", "union", "common", "outside", "difference", "clipped", "size", "contains", "_law_pot", "_law_take", "_law_of", "_law_great", "_law_moved", "_law_right"] : List PySem.Str)
abbrev RR : PySem.W.OpenRow := PySem.W.OpenLaw.row PySem.Challenge.rw_copyorigins_k08_sets_of_great_positions
abbrev hk : PySem.W.Hook := He.hookD 4 faL fnL
def ob (s : PySem.W.SharedT) : He.AlD := He.obsDG 4 faL fnL (HandSHeadRun.getT s)
theorem ob_eq (s : PySem.W.SharedT) : ob s = hk.obs s.abs := He.obsDG_eq (HandSHeadRun.getT_eq s)
theorem run (w : World) : HandSHeadRun.RunEq RR (PySem.W.view RR.prog [20]) hk ob 4000 namesL w := by
  intro os
  kernel_rfl
theorem tx_of {K : PySem.W.Frag} {h : Heap} {mg : Str → Option Value} (X : K.In h) (G : h.Ns mainGlobals mg) (c : He.SaysD faL fnL K) : Tx K mg where
  f_is_end := (c.def_ 0 (d := d_is_end) rfl).elim fun fd F => ⟨_, fd, F, He.glo_ok X G (c.fact 0 (f := .glo "is_end") rfl)⟩
  f_is_pair := (c.def_ 1 (d := d_is_pair) rfl).elim fun fd F => ⟨_, fd, F, He.glo_ok X G (c.fact 1 (f := .glo "is_pair") rfl)⟩
  f_is_position_set := (c.def_ 2 (d := d_is_position_set) rfl).elim fun fd F => ⟨_, fd, F, He.glo_ok X G (c.fact 2 (f := .glo "is_position_set") rfl)⟩
  f_merged := (c.def_ 3 (d := d_merged) rfl).elim fun fd F => ⟨_, fd, F, He.glo_ok X G (c.fact 3 (f := .glo "merged") rfl)⟩
  f_union := (c.def_ 4 (d := d_union) rfl).elim fun fd F => ⟨_, fd, F, He.glo_ok X G (c.fact 4 (f := .glo "union") rfl)⟩
  f_common := (c.def_ 5 (d := d_common) rfl).elim fun fd F => ⟨_, fd, F, He.glo_ok X G (c.fact 5 (f := .glo "common") rfl)⟩
  f_outside := (c.def_ 6 (d := d_outside) rfl).elim fun fd F => ⟨_, fd, F, He.glo_ok X G (c.fact 6 (f := .glo "outside") rfl)⟩
  f_difference := (c.def_ 7 (d := d_difference) rfl).elim fun fd F => ⟨_, fd, F, He.glo_ok X G (c.fact 7 (f := .glo "difference") rfl)⟩
  f_clipped := (c.def_ 8 (d := d_clipped) rfl).elim fun fd F => ⟨_, fd, F, He.glo_ok X G (c.fact 8 (f := .glo "clipped") rfl)⟩
  f_size := (c.def_ 9 (d := d_size) rfl).elim fun fd F => ⟨_, fd, F, He.glo_ok X G (c.fact 9 (f := .glo "size") rfl)⟩
  f_contains := (c.def_ 10 (d := d_contains) rfl).elim fun fd F => ⟨_, fd, F, He.glo_ok X G (c.fact 10 (f := .glo "contains") rfl)⟩
  f__law_pot := (c.def_ 11 (d := d__law_pot) rfl).elim fun fd F => ⟨_, fd, F, He.glo_ok X G (c.fact 11 (f := .glo "_law_pot") rfl)⟩
  f__law_take := (c.def_ 12 (d := d__law_take) rfl).elim fun fd F => ⟨_, fd, F, He.glo_ok X G (c.fact 12 (f := .glo "_law_take") rfl)⟩
  f__law_of := (c.def_ 13 (d := d__law_of) rfl).elim fun fd F => ⟨_, fd, F, He.glo_ok X G (c.fact 13 (f := .glo "_law_of") rfl)⟩
  f__law_great := (c.def_ 14 (d := d__law_great) rfl).elim fun fd F => ⟨_, fd, F, He.glo_ok X G (c.fact 14 (f := .glo "_law_great") rfl)⟩
  f__law_moved := (c.def_ 15 (d := d__law_moved) rfl).elim fun fd F => ⟨_, fd, F, He.glo_ok X G (c.fact 15 (f := .glo "_law_moved") rfl)⟩
  f__law_right := (c.def_ 16 (d := d__law_right) rfl).elim fun fd F => ⟨_, fd, F, He.glo_ok X G (c.fact 16 (f := .glo "_law_right") rfl)⟩
  f_law := (c.def_ 17 (d := d_law) rfl).elim fun fd F => ⟨_, fd, F, He.glo_ok X G (c.fact 17 (f := .glo "law") rfl)⟩
  c_PAIR := He.int_ok X G (c.fact 18 (f := .int "PAIR" 2) rfl)
  n_abs := He.free_ok X G (c.fact 19 (f := .free "abs") rfl)
  n_all := He.free_ok X G (c.fact 20 (f := .free "all") rfl)
  n_any := He.free_ok X G (c.fact 21 (f := .free "any") rfl)
  n_bool := He.free_ok X G (c.fact 22 (f := .free "bool") rfl)
  n_int := He.free_ok X G (c.fact 23 (f := .free "int") rfl)
  n_isinstance := He.free_ok X G (c.fact 24 (f := .free "isinstance") rfl)
  n_len := He.free_ok X G (c.fact 25 (f := .free "len") rfl)
  n_max := He.free_ok X G (c.fact 26 (f := .free "max") rfl)
  n_min := He.free_ok X G (c.fact 27 (f := .free "min") rfl)
  n_range := He.free_ok X G (c.fact 28 (f := .free "range") rfl)
  n_sorted := He.free_ok X G (c.fact 29 (f := .free "sorted") rfl)
  n_sum := He.free_ok X G (c.fact 30 (f := .free "sum") rfl)
  n_tuple := He.free_ok X G (c.fact 31 (f := .free "tuple") rfl)
  n_zip := He.free_ok X G (c.fact 32 (f := .free "zip") rfl)
end Co
open PySem PySem.W PySem.Calls PyProof.Rows
set_option maxRecDepth 100000 in
set_option maxHeartbeats 0 in
theorem PySem.Challenge.cw_copyorigins_k08_sets_of_great_positions_holds : PySem.Challenge.rw_copyorigins_k08_sets_of_great_positions.Holds := by
  w_on; o_law
  refine HandSHeadRun.head_any (r := OpenLaw.row PySem.Challenge.rw_copyorigins_k08_sets_of_great_positions) (q := view (OpenLaw.row PySem.Challenge.rw_copyorigins_k08_sets_of_great_positions).prog [20]) (H := Co.hk) (ob := Co.ob) (M := 4000) (loose := Co.namesL) (d := HandSHeadRun.topDef (OpenLaw.row PySem.Challenge.rw_copyorigins_k08_sets_of_great_positions).prog 20) (kwd := []) Co.ob_eq
    (by kernel_rfl) (fun s => by kernel_rfl) Co.run (by kernel_rfl) (by kernel_rfl) (by kernel_rfl) (by rfl) (by first | assumption | decide +kernel) (by decide +kernel) ⟨rfl, rfl, rfl, rfl, rfl, by decide +kernel⟩ ?hw ?hc
  case hw => w_witness2
  case hc =>
    refine L2.walk_ofE (l := PySem.Challenge.rw_copyorigins_k08_sets_of_great_positions) (n := 63) (k := 6) (x := "_law_script") (CX := L2.CX0) rfl (by decide) (by kernel_rfl) ⟨rfl, by decide, by decide⟩ ?F (fun _ _ _ _ z => z)
    intro w mg fa h Y G hmg0
    obtain ⟨K, KX, c⟩ := Y
    have hmg : mg ("law" : PySem.Str) = some (.ref fa) := by
      have e : (HandSHeadRun.topDef (OpenLaw.row PySem.Challenge.rw_copyorigins_k08_sets_of_great_positions).prog 20).name = ("law" : PySem.Str) := by kernel_rfl
      rw [← e]
      exact hmg0
    exact Co.end_law (P := (PySem.Challenge.rw_copyorigins_k08_sets_of_great_positions).prog) (w := w) KX G hmg (Co.tx_of KX G c)

