import PyProof.Rows.All
import Wide.All
import OpenK.AllK
import Wide.FinOn
import HandS.ForMost
import HandS.IsInst
import HandS.Deep
import HandS.TupAny
import HandS.TupLe
import HandS.More
import PySem.Challenge.RW_everymending_k04_tables_and_facts
set_option Elab.async false
set_option linter.all false
set_option maxRecDepth 100000
set_option maxHeartbeats 4000000

/-! DL1: the data layer, its relation: data (PyData) of a value over a stable heap, what a slot is known to be. -/
namespace DL
open PySem PySem.Spec PyProof.Rows L2

def Ex (H H' : Hp) : Prop := ∀ a o, H a = some o → H' a = some o
theorem Ex.refl (H : Hp) : Ex H H := fun _ _ h => h
theorem Ex.trans {H H1 H2 : Hp} (a : Ex H H1) (b : Ex H1 H2) : Ex H H2 := fun x o h => b x o (a x o h)
theorem Ex.back {H H' : Hp} {p : Addr} (e : Ex H H') (h : H' p = none) : H p = none := by
  cases h1 : H p with
  | none => rfl
  | some o => rw [e p o h1] at h; cases h
theorem Ex.new {H : Hp} {p : Addr} {o : HO} (h : H p = none) : Ex H (upd H p o) := fun a u e => by
  rw [upd_ne (ne_of_none e h)]; exact e
theorem Ex.mut {H H' : Hp} {p : Addr} {o : HO} (e : Ex H H') (h : H p = none) : Ex H (upd H' p o) := fun a u ha => by
  rw [upd_ne (ne_of_none ha h)]; exact e a u ha
theorem Ex.rd {H H' : Hp} {a : Addr} {u : HO} (e : Ex H H') (h : Rd H a u) : Rd H' a u := by
  rcases h with h | ⟨o, h⟩
  · exact .inl (e a _ h)
  · exact .inr ⟨o, e a _ h⟩
theorem Ex.sqL {K : PySem.W.Frag} {H H' : Hp} {a : Addr} {xs : List V} (e : Ex H H') (h : SqL K H a xs) : SqL K H' a xs := by
  rcases h with h | h
  · exact .inl (e.rd h)
  · exact .inr h
theorem Ex.sqT {K : PySem.W.Frag} {H H' : Hp} {a : Addr} {xs : List V} (e : Ex H H') (h : SqT K H a xs) : SqT K H' a xs := by
  rcases h with h | h
  · exact .inl (e.rd h)
  · exact .inr h

/-- the stable part and the heap go on: nothing that stood changes, what was not stable does not become so -/
structure Up (G H G' H' : Hp) : Prop where
  g : Ex G G'
  h : Ex H H'
  gh : Ex G' H'
  sep : ∀ a, H a ≠ none → G a = none → G' a = none
theorem Up.refl {G H : Hp} (e : Ex G H) : Up G H G H := ⟨Ex.refl _, Ex.refl _, e, fun _ _ h => h⟩
theorem Up.trans {G H G1 H1 G2 H2 : Hp} (a : Up G H G1 H1) (b : Up G1 H1 G2 H2) : Up G H G2 H2 :=
  ⟨a.g.trans b.g, a.h.trans b.h, b.gh, fun x hx hg => b.sep x (fun z => hx (a.h.back z)) (a.sep x hx hg)⟩
/-- a new object that is stable from now on -/
theorem Up.newG {G H : Hp} {p : Addr} {o : HO} (e : Ex G H) (h : H p = none) : Up G H (upd G p o) (upd H p o) := by
  have g := e.back h
  refine ⟨Ex.new g, Ex.new h, fun a u q => ?_, fun a ha hg => ?_⟩
  · by_cases z : a = p
    · subst z; rw [upd_same] at q ⊢; exact q
    · rw [upd_ne z] at q ⊢; exact e a u q
  · rw [upd_ne (fun z => ha (by rw [z]; exact h))]; exact hg
/-- a new object of one's own -/
theorem Up.newH {G H : Hp} {p : Addr} {o : HO} (e : Ex G H) (h : H p = none) : Up G H G (upd H p o) :=
  ⟨Ex.refl _, Ex.new h, e.trans (Ex.new h), fun _ _ g => g⟩

/-- all that is new is stable from now on -/
def frzAll (Hs G H : Hp) : Hp := fun a => if Hs a = none then H a else G a
theorem frzAll_ex {Hs G H : Hp} (e : Ex G H) : Ex G (frzAll Hs G H) := fun a o h => by
  unfold frzAll; split
  · exact e a o h
  · exact h
theorem frzAll_up {Gs Hs G H : Hp} (u : Up Gs Hs G H) : Up Gs Hs (frzAll Hs G H) H := by
  refine ⟨u.g.trans (frzAll_ex u.gh), u.h, fun a o h => ?_, fun a ha hg => ?_⟩
  · unfold frzAll at h; split at h
    · exact h
    · exact u.gh a o h
  · unfold frzAll; rw [if_neg ha]; exact u.sep a ha hg
theorem frzAll_new {Hs G H : Hp} {p : Addr} (h : Hs p = none) : frzAll Hs G H p = H p := by
  unfold frzAll; rw [if_pos h]

/-! ### a value is data -/
/-- a text that fits -/
def okS (x : Str) : Prop := x.length ≤ sizeLine ∧ PyData.strOk x = true
mutual
inductive Is (K : PySem.W.Frag) (G : Hp) : V → PyData → Prop
  | non : Is K G .non .none
  | bl (b : Bool) : Is K G (.bl b) (.bool b)
  | int (i : Int) : Is K G (.int i) (.int i)
  | str (x : Str) (h : okS x) : Is K G (.str x) (.str x)
  | lst {a : Addr} {xs : List V} {ds : List PyData} : G a = some (.lst xs) → ds.length ≤ sizeLine → IsAll K G xs ds → Is K G (.ref a) (.list ds)
  | tup {a : Addr} {xs : List V} {ds : List PyData} : SqT K G a xs → ds.length ≤ sizeLine → IsAll K G xs ds → Is K G (.ref a) (.tuple ds)
inductive IsAll (K : PySem.W.Frag) (G : Hp) : List V → List PyData → Prop
  | nil : IsAll K G [] []
  | cons {v : V} {vs : List V} {d : PyData} {ds : List PyData} : Is K G v d → IsAll K G vs ds → IsAll K G (v :: vs) (d :: ds)
end
section
variable {K : PySem.W.Frag} {G G' : Hp}
mutual
theorem Is.mono (e : Ex G G') : ∀ (d : PyData) (v : V), Is K G v d → Is K G' v d
  | .none, _, h => by cases h; exact .non
  | .bool b, _, h => by cases h; exact .bl b
  | .int i, _, h => by cases h; exact .int i
  | .str x, _, h => by cases h with | str _ z => exact .str x z
  | .list ds, _, h => by cases h with | lst hs z ha => exact .lst (e _ _ hs) z (IsAll.mono e ds _ ha)
  | .tuple ds, _, h => by cases h with | tup hs z ha => exact .tup (e.sqT hs) z (IsAll.mono e ds _ ha)
  | .dict _, _, h => by cases h
theorem IsAll.mono (e : Ex G G') : ∀ (ds : List PyData) (vs : List V), IsAll K G vs ds → IsAll K G' vs ds
  | [], _, h => by cases h; exact .nil
  | d :: ds, _, h => by cases h with | cons h1 h2 => exact .cons (Is.mono e d _ h1) (IsAll.mono e ds _ h2)
end
mutual
theorem Is.dp : ∀ (d : PyData) (v : V), Is K G v d → Dp K G v d
  | .none, _, h => by cases h; exact .non
  | .bool b, _, h => by cases h; exact .bl b
  | .int i, _, h => by cases h; exact .int i
  | .str x, _, h => by cases h with | str _ z => exact .str x
  | .list ds, _, h => by cases h with | lst hs z ha => exact .lst (SqL.of hs) (IsAll.dp ds _ ha)
  | .tuple ds, _, h => by cases h with | tup hs z ha => exact .tup hs (IsAll.dp ds _ ha)
  | .dict _, _, h => by cases h
theorem IsAll.dp : ∀ (ds : List PyData) (vs : List V), IsAll K G vs ds → DpAll K G vs ds
  | [], _, h => by cases h; exact .nil
  | d :: ds, _, h => by cases h with | cons h1 h2 => exact .cons (Is.dp d _ h1) (IsAll.dp ds _ h2)
end
mutual
theorem Is.lay : ∀ (d : PyData) (v : V), Is K G v d → d.canLay0 = true
  | .none, _, h => by simp [PyData.canLay0]
  | .bool b, _, h => by simp [PyData.canLay0]
  | .int i, _, h => by simp [PyData.canLay0]
  | .str x, _, h => by cases h with | str _ z => simp only [PyData.canLay0]; exact z.2
  | .list ds, _, h => by cases h with | lst hs z ha => simp only [PyData.canLay0]; exact IsAll.lay ds _ ha
  | .tuple ds, _, h => by cases h with | tup hs z ha => simp only [PyData.canLay0]; exact IsAll.lay ds _ ha
  | .dict _, _, h => by cases h
theorem IsAll.lay : ∀ (ds : List PyData) (vs : List V), IsAll K G vs ds → PyData.canLayAll0 ds = true
  | [], _, h => by simp [PyData.canLayAll0]
  | d :: ds, _, h => by cases h with | cons h1 h2 => simp only [PyData.canLayAll0, Bool.and_eq_true]; exact ⟨Is.lay d _ h1, IsAll.lay ds _ h2⟩
end
theorem Is.up {v : V} {d : PyData} (h : Is K G v d) (e : Ex G G') : Is K G' v d := Is.mono e d v h
theorem IsAll.up {v : List V} {d : List PyData} (h : IsAll K G v d) (e : Ex G G') : IsAll K G' v d := IsAll.mono e d v h
theorem IsAll.len : ∀ {ds : List PyData} {vs : List V}, IsAll K G vs ds → vs.length = ds.length
  | [], _, h => by cases h; rfl
  | d :: ds, _, h => by cases h with | cons h1 h2 => simp [IsAll.len h2]
theorem IsAll.get : ∀ {ds : List PyData} {vs : List V} {i : Nat} {d : PyData}, IsAll K G vs ds → ds[i]? = some d → ∃ v, vs[i]? = some v ∧ Is K G v d
  | [], _, _, _, _, h => by simp at h
  | x :: ds, _, 0, d, h, e => by
    cases h with | cons h1 h2 =>
    have q : x = d := by simpa using e
    subst q; exact ⟨_, rfl, h1⟩
  | x :: ds, _, i + 1, d, h, e => by
    cases h with | cons h1 h2 =>
    obtain ⟨v, a, b⟩ := IsAll.get (i := i) h2 (by simpa using e)
    exact ⟨v, by simpa using a, b⟩
theorem IsAll.getV : ∀ {ds : List PyData} {vs : List V} {i : Nat} {v : V}, IsAll K G vs ds → vs[i]? = some v → ∃ d, ds[i]? = some d ∧ Is K G v d := fun {ds vs i v} h e => by
  have hl := h.len
  have hi : i < ds.length := by rw [← hl]; exact (List.getElem?_eq_some_iff.mp e).1
  obtain ⟨v', e', q⟩ := h.get (List.getElem?_eq_getElem hi)
  rw [e] at e'; cases e'
  exact ⟨_, List.getElem?_eq_getElem hi, q⟩
theorem IsAll.append : ∀ {ds es : List PyData} {vs ws : List V}, IsAll K G vs ds → IsAll K G ws es → IsAll K G (vs ++ ws) (ds ++ es)
  | [], _, _, _, h, k => by cases h; exact k
  | d :: ds, _, _, _, h, k => by cases h with | cons h1 h2 => exact .cons h1 (IsAll.append h2 k)
theorem IsAll.one {v : V} {d : PyData} (h : Is K G v d) : IsAll K G [v] [d] := .cons h .nil
theorem IsAll.take : ∀ (n : Nat) {ds : List PyData} {vs : List V}, IsAll K G vs ds → IsAll K G (vs.take n) (ds.take n)
  | 0, _, _, _ => by simp; exact .nil
  | n + 1, [], _, h => by cases h; exact .nil
  | n + 1, d :: ds, _, h => by cases h with | cons h1 h2 => exact .cons h1 (IsAll.take n h2)
theorem IsAll.drop : ∀ (n : Nat) {ds : List PyData} {vs : List V}, IsAll K G vs ds → IsAll K G (vs.drop n) (ds.drop n)
  | 0, _, _, h => h
  | n + 1, [], _, h => by cases h; exact .nil
  | n + 1, d :: ds, _, h => by cases h with | cons h1 h2 => exact IsAll.drop n h2
theorem IsAll.rev {ds : List PyData} {vs : List V} (h : IsAll K G vs ds) : IsAll K G vs.reverse ds.reverse := by
  induction ds generalizing vs with
  | nil => cases h; exact .nil
  | cons d ds ih => cases h with | cons h1 h2 => rw [List.reverse_cons, List.reverse_cons]; exact (ih h2).append (.one h1)
theorem IsAll.set : ∀ (i : Nat) {ds : List PyData} {vs : List V} {v : V} {d : PyData}, IsAll K G vs ds → Is K G v d → IsAll K G (vs.set i v) (ds.set i d)
  | _, [], _, _, _, h, _ => by cases h; exact .nil
  | 0, d :: ds, _, _, _, h, k => by cases h with | cons h1 h2 => exact .cons k h2
  | i + 1, d :: ds, _, _, _, h, k => by cases h with | cons h1 h2 => exact .cons h1 (IsAll.set i h2 k)
theorem IsAll.erase : ∀ (i : Nat) {ds : List PyData} {vs : List V}, IsAll K G vs ds → IsAll K G (vs.eraseIdx i) (ds.eraseIdx i)
  | _, [], _, h => by cases h; exact .nil
  | 0, d :: ds, _, h => by cases h with | cons h1 h2 => exact h2
  | i + 1, d :: ds, _, h => by cases h with | cons h1 h2 => exact .cons h1 (IsAll.erase i h2)
theorem IsAll.ints : ∀ {ns : List Int} {vs : List V}, IsAll K G vs (ns.map .int) → vs = ns.map V.int
  | [], _, h => by cases h; rfl
  | n :: ns, _, h => by
    cases h with | cons h1 h2 =>
    cases h1
    rw [IsAll.ints h2]; rfl
theorem IsAll.bools : ∀ {ns : List Bool} {vs : List V}, IsAll K G vs (ns.map .bool) → vs = ns.map V.bl
  | [], _, h => by cases h; rfl
  | n :: ns, _, h => by
    cases h with | cons h1 h2 =>
    cases h1
    rw [IsAll.bools h2]; rfl
theorem IsAll.strs : ∀ {ns : List Str} {vs : List V}, IsAll K G vs (ns.map .str) → vs = ns.map V.str
  | [], _, h => by cases h; rfl
  | n :: ns, _, h => by
    cases h with | cons h1 h2 =>
    cases h1
    rw [IsAll.strs h2]; rfl
theorem IsAll.ofInts : ∀ (ns : List Int), IsAll K G (ns.map V.int) (ns.map .int)
  | [] => .nil
  | n :: ns => .cons (.int n) (IsAll.ofInts ns)
end

/-! ### the draws: a list of ints, none below 0, whatever they are -/
def DrwOk (ns : List Int) : Prop := ns.length ≤ 100000 ∧ ∀ x ∈ ns, 0 ≤ x
def drwPhi (p : Addr) : Heap → Prop := fun h => ∃ (ns : List Int) (its : List Value) (n : Nat), DrwOk ns ∧ Vals (ns.map V.int) its ∧ h.get? p = some { cls := .type "list", data := .seq its.toArray n }
abbrev drwO (p : Addr) : HO := .ext (drwPhi p)

/-- what a slot, or a value, is known to be: data; an own list; a list handed in; an own list that is read; the draws -/
inductive W where
  | d (x : PyData) | l (xs : List PyData) | b (xs : List PyData) | r (xs : List PyData) | drw
abbrev En := List (Option W)

/-- a value behind an expression that began at the heap Hs, in a def that was entered at H0 -/
def RR (K : PySem.W.Frag) (H0 Hs G H : Hp) (v : V) : W → Prop
  | .d x => Is K G v x
  | .l xs => ∃ p vs, v = .ref p ∧ Hs p = none ∧ G p = none ∧ H p = some (.lst vs) ∧ xs.length ≤ sizeLine ∧ IsAll K G vs xs
  | .b xs => ∃ p vs, v = .ref p ∧ SqL K H0 p vs ∧ xs.length ≤ sizeLine ∧ IsAll K G vs xs
  | .r xs => ∃ p vs, v = .ref p ∧ H p = some (.lst vs) ∧ xs.length ≤ sizeLine ∧ IsAll K G vs xs
  | .drw => ∃ p, v = .ref p ∧ G p = some (drwO p)
/-- a slot -/
def SR (K : PySem.W.Frag) (H0 G H : Hp) (v : V) : W → Prop
  | .d x => Is K G v x
  | .l xs => ∃ p vs, v = .ref p ∧ H0 p = none ∧ G p = none ∧ H p = some (.lst vs) ∧ xs.length ≤ sizeLine ∧ IsAll K G vs xs
  | .b xs => ∃ p vs, v = .ref p ∧ SqL K H0 p vs ∧ xs.length ≤ sizeLine ∧ IsAll K G vs xs
  | .r _ => False
  | .drw => ∃ p, v = .ref p ∧ G p = some (drwO p)

structure DEnv (K : PySem.W.Frag) (G0 H0 G H : Hp) (σ : L2.St) (ρ : En) : Prop where
  up : Up G0 H0 G H
  slot : ∀ (i : Nat) (w : W), ρ[i]? = some (some w) → ∃ v, σ[i]? = some (some v) ∧ SR K H0 G H v w
  own : ∀ (i j : Nat) (xs ys : List PyData) (v : V), i ≠ j → ρ[i]? = some (some (.l xs)) → ρ[j]? = some (some (.l ys)) → σ[i]? = some (some v) → σ[j]? ≠ some (some v)
  len : ρ.length = σ.length

section
variable {K : PySem.W.Frag} {G0 H0 Hs G H G' H' : Hp} {σ : L2.St} {ρ : En} {v : V} {w : W}
theorem SR.up (h : SR K H0 G H v w) (u : Up G H G' H') : SR K H0 G' H' v w := by
  cases w with
  | d x => exact Is.up h u.g
  | l xs =>
    obtain ⟨p, vs, e, h1, h2, h3, z, h4⟩ := h
    exact ⟨p, vs, e, h1, u.sep p (by rw [h3]; exact fun z => nomatch z) h2, u.h p _ h3, z, h4.up u.g⟩
  | b xs =>
    obtain ⟨p, vs, e, h1, z, h4⟩ := h
    exact ⟨p, vs, e, h1, z, h4.up u.g⟩
  | r xs => exact h
  | drw => obtain ⟨p, e, h1⟩ := h; exact ⟨p, e, u.g p _ h1⟩
theorem RR.up (h : RR K H0 Hs G H v w) (u : Up G H G' H') : RR K H0 Hs G' H' v w := by
  cases w with
  | d x => exact Is.up h u.g
  | l xs =>
    obtain ⟨p, vs, e, h1, h2, h3, z, h4⟩ := h
    exact ⟨p, vs, e, h1, u.sep p (by rw [h3]; exact fun z => nomatch z) h2, u.h p _ h3, z, h4.up u.g⟩
  | b xs =>
    obtain ⟨p, vs, e, h1, z, h4⟩ := h
    exact ⟨p, vs, e, h1, z, h4.up u.g⟩
  | r xs =>
    obtain ⟨p, vs, e, h1, z, h4⟩ := h
    exact ⟨p, vs, e, u.h p _ h1, z, h4.up u.g⟩
  | drw => obtain ⟨p, e, h1⟩ := h; exact ⟨p, e, u.g p _ h1⟩
/-- an earlier start -/
theorem RR.at {Hz : Hp} (h : RR K H0 Hs G H v w) (e : Ex Hz Hs) : RR K H0 Hz G H v w := by
  cases w with
  | l xs =>
    obtain ⟨p, vs, e1, h1, h2⟩ := h
    exact ⟨p, vs, e1, e.back h1, h2⟩
  | _ => exact h
theorem DEnv.gh (E : DEnv K G0 H0 G H σ ρ) : Ex G H := E.up.gh
theorem DEnv.to (E : DEnv K G0 H0 G H σ ρ) (u : Up G H G' H') : DEnv K G0 H0 G' H' σ ρ :=
  ⟨E.up.trans u, fun i w h => let ⟨v, a, b⟩ := E.slot i w h; ⟨v, a, b.up u⟩, E.own, E.len⟩
/-- what may be laid into a tuple, a list: as data -/
def frzW : W → Option PyData
  | .d x => some x
  | .l xs => some (.list xs)
  | _ => none
theorem RR.frz {x : PyData} (h : RR K H0 Hs G H v w) (gh : Ex G H) (e : frzW w = some x) : Is K (frzAll Hs G H) v x := by
  cases w with
  | d y => cases e; exact Is.up h (frzAll_ex gh)
  | l xs =>
    cases e
    obtain ⟨p, vs, rfl, h1, h2, h3, z, h4⟩ := h
    refine .lst (xs := vs) ?_ z (h4.up (frzAll_ex gh))
    rw [frzAll_new h1]; exact h3
  | b xs => cases e
  | r xs => cases e
  | drw => cases e
/-- a list that is read, whatever it is -/
def asL : W → Option (List PyData)
  | .d (.list xs) => some xs
  | .l xs => some xs
  | .b xs => some xs
  | .r xs => some xs
  | _ => none
theorem RR.asL {xs : List PyData} (h : RR K H0 Hs G H v w) (E : DEnv K G0 H0 G H σ ρ) (e : asL w = some xs) : ∃ p vs, v = .ref p ∧ SqL K H p vs ∧ xs.length ≤ sizeLine ∧ IsAll K G vs xs := by
  cases w with
  | d y =>
    cases y <;> cases e
    cases h with | lst hs z ha => exact ⟨_, _, rfl, SqL.of (E.gh _ _ hs), z, ha⟩
  | l ys =>
    cases e
    obtain ⟨p, vs, rfl, h1, h2, h3, z, h4⟩ := h
    exact ⟨p, vs, rfl, SqL.of h3, z, h4⟩
  | b ys =>
    cases e
    obtain ⟨p, vs, rfl, h1, z, h4⟩ := h
    exact ⟨p, vs, rfl, E.up.h.sqL h1, z, h4⟩
  | r ys =>
    cases e
    obtain ⟨p, vs, rfl, h3, z, h4⟩ := h
    exact ⟨p, vs, rfl, SqL.of h3, z, h4⟩
  | drw => cases e
/-- a list or a tuple that is read -/
def asQ : W → Option (List PyData)
  | .d (.tuple xs) => some xs
  | w => asL w
theorem RR.asQ {xs : List PyData} (h : RR K H0 Hs G H v w) (E : DEnv K G0 H0 G H σ ρ) (e : asQ w = some xs) : ∃ p vs, v = .ref p ∧ (SqL K H p vs ∨ SqT K H p vs) ∧ xs.length ≤ sizeLine ∧ IsAll K G vs xs := by
  cases w with
  | d y =>
    cases y with
    | tuple ys =>
      cases e
      cases h with | tup hs z ha => exact ⟨_, _, rfl, .inr (E.gh.sqT hs), z, ha⟩
    | _ => obtain ⟨p, vs, a, b, c⟩ := RR.asL h E e; exact ⟨p, vs, a, .inl b, c⟩
  | _ => obtain ⟨p, vs, a, b, c⟩ := RR.asL h E e; exact ⟨p, vs, a, .inl b, c⟩
/-- as data at the heap as it is -/
def asD : W → Option PyData
  | .d x => some x
  | .l xs => some (.list xs)
  | .b xs => some (.list xs)
  | .r xs => some (.list xs)
  | .drw => none
theorem RR.lay {x : PyData} (h : RR K H0 Hs G H v w) (e : asD w = some x) : x.canLay0 = true := by
  have f : ∀ {xs : List PyData} {vs : List V}, IsAll K G vs xs → (PyData.list xs).canLay0 = true := fun a => by simp only [PyData.canLay0]; exact IsAll.lay _ _ a
  cases w with
  | d y => cases e; exact Is.lay _ _ h
  | drw => cases e
  | l ys => cases e; obtain ⟨p, vs, _, _, _, _, _, a⟩ := h; exact f a
  | b ys => cases e; obtain ⟨p, vs, _, _, _, a⟩ := h; exact f a
  | r ys => cases e; obtain ⟨p, vs, _, _, _, a⟩ := h; exact f a
/-- a list that is read and stands in the heap itself -/
def asM : W → Option (List PyData)
  | .d (.list xs) => some xs
  | .l xs => some xs
  | .r xs => some xs
  | _ => none
theorem RR.asM {xs : List PyData} (h : RR K H0 Hs G H v w) (E : DEnv K G0 H0 G H σ ρ) (e : asM w = some xs) : ∃ p vs, v = .ref p ∧ H p = some (.lst vs) ∧ xs.length ≤ sizeLine ∧ IsAll K G vs xs := by
  cases w with
  | d y =>
    cases y <;> cases e
    cases h with | lst hs z ha => exact ⟨_, _, rfl, E.gh _ _ hs, z, ha⟩
  | l ys =>
    cases e
    obtain ⟨p, vs, rfl, h1, h2, h3, z, h4⟩ := h
    exact ⟨p, vs, rfl, h3, z, h4⟩
  | b ys => cases e
  | r ys =>
    cases e
    obtain ⟨p, vs, rfl, h3, z, h4⟩ := h
    exact ⟨p, vs, rfl, h3, z, h4⟩
  | drw => cases e
theorem RR.asD {x : PyData} (h : RR K H0 Hs G H v w) (E : DEnv K G0 H0 G H σ ρ) (e : asD w = some x) : Dp K H v x := by
  cases w with
  | d y => cases e; exact Is.dp _ _ (Is.up h E.gh)
  | drw => cases e
  | l ys =>
    cases e
    obtain ⟨p, vs, rfl, a, z, c⟩ := RR.asL h E rfl
    exact .lst a (IsAll.dp _ _ (c.up E.gh))
  | b ys =>
    cases e
    obtain ⟨p, vs, rfl, a, z, c⟩ := RR.asL h E rfl
    exact .lst a (IsAll.dp _ _ (c.up E.gh))
  | r ys =>
    cases e
    obtain ⟨p, vs, rfl, a, z, c⟩ := RR.asL h E rfl
    exact .lst a (IsAll.dp _ _ (c.up E.gh))
/-- a slot set to a value -/
theorem DEnv.set (E : DEnv K G0 H0 G H σ ρ) {Hz : Hp} {Gz : Hp} (Ez : DEnv K G0 H0 Gz Hz σ ρ) (u : Up Gz Hz G H) (i : Nat) (hi : i < σ.length) (h : RR K H0 Hz G H v w) (hb : ∀ xs, w ≠ .r xs) : DEnv K G0 H0 G H (σ.set i (some v)) (ρ.set i (some w)) := by
  have hir : i < ρ.length := by rw [E.len]; exact hi
  refine ⟨E.up, fun j w' hj => ?_, fun j k xs ys v' hjk hj hk hv hv2 => ?_, by simp [E.len]⟩
  · by_cases e : i = j
    · subst e
      rw [List.getElem?_set_self hir] at hj
      cases hj
      refine ⟨v, List.getElem?_set_self hi, ?_⟩
      cases w with
      | d x => exact h
      | l xs =>
        obtain ⟨p, vs, e1, h1, h2⟩ := h
        exact ⟨p, vs, e1, Ez.up.h.back h1, h2⟩
      | b xs => exact h
      | r xs => exact absurd rfl (hb xs)
      | drw => exact h
    · rw [List.getElem?_set_ne e] at hj ⊢
      exact E.slot j w' hj
  · have two : ∀ (j k : Nat) (xs ys : List PyData) (v' : V), i ≠ k → (ρ.set i (some w))[i]? = some (some (.l xs)) → ρ[k]? = some (some (.l ys)) → (σ.set i (some v))[i]? = some (some v') → σ[k]? = some (some v') → False := by
      intro j1 k1 xs1 ys1 v1 q1 q2 q3 q4 q5
      rw [List.getElem?_set_self hir] at q2
      rw [List.getElem?_set_self hi] at q4
      obtain ⟨v3, a3, p3, vs3, b3, c3, d3, f3, _⟩ := Ez.slot k1 _ q3
      rw [q5] at a3
      have w1 : w = .l xs1 := Option.some.inj (Option.some.inj q2)
      have w2 : v = v1 := Option.some.inj (Option.some.inj q4)
      subst w1; subst w2
      cases a3
      obtain ⟨p, vs, e1, h1, h2⟩ := h
      rw [e1] at b3; cases b3
      rw [h1] at f3; cases f3
    by_cases e1 : i = j
    · subst e1
      have e2 : i ≠ k := hjk
      rw [List.getElem?_set_ne e2] at hk hv2
      exact two i k xs ys v' e2 hj hk hv hv2
    · by_cases e2 : i = k
      · subst e2
        rw [List.getElem?_set_ne e1] at hj hv
        exact two i j ys xs v' e1 hk hj hv2 hv
      · rw [List.getElem?_set_ne e1] at hj hv
        rw [List.getElem?_set_ne e2] at hk hv2
        exact E.own j k xs ys v' hjk hj hk hv hv2
/-- slots forgotten -/
theorem DEnv.forget (E : DEnv K G0 H0 G H σ ρ) {σ' : L2.St} {ρ' : En} (hl : ρ'.length = σ'.length) (h : ∀ (i : Nat) (w : W), ρ'[i]? = some (some w) → ρ[i]? = some (some w) ∧ σ'[i]? = σ[i]?) : DEnv K G0 H0 G H σ' ρ' := by
  refine ⟨E.up, fun i w e => ?_, fun i j xs ys v hij hi hj hv hv2 => ?_, hl⟩
  · obtain ⟨a, b⟩ := h i w e
    rw [b]; exact E.slot i w a
  · obtain ⟨a, b⟩ := h i _ hi
    obtain ⟨c, d⟩ := h j _ hj
    rw [b] at hv
    rw [d] at hv2
    exact E.own i j xs ys v hij a c hv hv2
/-- an own list is changed: its address p -/
theorem DEnv.mut (E : DEnv K G0 H0 G H σ ρ) {i : Nat} {xs ys : List PyData} {p : Addr} {vs : List V} (hi : ρ[i]? = some (some (.l xs))) (hp : σ[i]? = some (some (.ref p))) (hz : ys.length ≤ sizeLine) (hv : IsAll K G vs ys) :
    DEnv K G0 H0 G (upd H p (.lst vs)) σ (ρ.set i (some (.l ys))) := by
  obtain ⟨v1, a1, p1, vs1, b1, c1, d1, f1, z1, g1⟩ := E.slot i _ hi
  rw [hp] at a1; cases a1; cases b1
  have hir : i < ρ.length := (List.getElem?_eq_some_iff.mp hi).1
  refine ⟨⟨E.up.g, E.up.h.mut c1, E.up.gh.mut d1, E.up.sep⟩, fun j w hj => ?_, fun j k xs' ys' v' hjk hj hk => ?_, by simp [E.len]⟩
  · by_cases e : i = j
    · subst e
      rw [List.getElem?_set_self hir] at hj
      cases hj
      exact ⟨_, hp, p, vs, rfl, c1, d1, upd_same, hz, hv⟩
    · rw [List.getElem?_set_ne e] at hj
      obtain ⟨v2, a2, r2⟩ := E.slot j w hj
      refine ⟨v2, a2, ?_⟩
      cases w with
      | l xs2 =>
        obtain ⟨p2, vs2, b2, c2, d2, f2, z2, g2⟩ := r2
        subst b2
        have ne : p2 ≠ p := fun z => by subst z; exact E.own i j xs xs2 _ e hi hj hp a2
        exact ⟨p2, vs2, rfl, c2, d2, by rw [upd_ne ne]; exact f2, z2, g2⟩
      | _ => exact r2
  · have f : ∀ (m : Nat) (zs : List PyData), (ρ.set i (some (.l ys)))[m]? = some (some (.l zs)) → ∃ us, ρ[m]? = some (some (.l us)) := fun m zs hm => by
      by_cases e : i = m
      · subst e; exact ⟨xs, hi⟩
      · rw [List.getElem?_set_ne e] at hm; exact ⟨zs, hm⟩
    obtain ⟨u1, k1⟩ := f j xs' hj
    obtain ⟨u2, k2⟩ := f k ys' hk
    exact E.own j k u1 u2 v' hjk k1 k2
/-- an own list is data from now on -/
theorem DEnv.freeze (E : DEnv K G0 H0 G H σ ρ) {i : Nat} {xs : List PyData} (hi : ρ[i]? = some (some (.l xs))) : ∃ G', DEnv K G0 H0 G' H σ (ρ.set i (some (.d (.list xs)))) := by
  obtain ⟨v1, a1, p, vs, b1, c1, d1, f1, z1, g1⟩ := E.slot i _ hi
  subst b1
  have hir : i < ρ.length := (List.getElem?_eq_some_iff.mp hi).1
  have eg : Ex G (upd G p (.lst vs)) := Ex.new d1
  refine ⟨upd G p (.lst vs), ⟨E.up.g.trans eg, E.up.h, fun a o q => ?_, fun a ha hg => ?_⟩, fun j w hj => ?_, fun j k xs' ys' v' hjk hj hk => ?_, by simp [E.len]⟩
  · by_cases z : a = p
    · subst z; rw [upd_same] at q; rw [f1]; exact q
    · rw [upd_ne z] at q; exact E.up.gh a o q
  · rw [upd_ne (fun z => ha (by rw [z]; exact c1))]; exact E.up.sep a ha hg
  · by_cases e : i = j
    · subst e
      rw [List.getElem?_set_self hir] at hj
      cases hj
      exact ⟨_, a1, .lst upd_same z1 (g1.up eg)⟩
    · rw [List.getElem?_set_ne e] at hj
      obtain ⟨v2, a2, r2⟩ := E.slot j w hj
      refine ⟨v2, a2, ?_⟩
      cases w with
      | d x => exact Is.up r2 eg
      | l xs2 =>
        obtain ⟨p2, vs2, b2, c2, d2, f2, z2, g2⟩ := r2
        subst b2
        have ne : p2 ≠ p := fun z => by subst z; exact E.own i j xs xs2 _ e hi hj a1 a2
        exact ⟨p2, vs2, rfl, c2, by rw [upd_ne ne]; exact d2, f2, z2, g2.up eg⟩
      | b xs2 =>
        obtain ⟨p2, vs2, b2, c2, z2, g2⟩ := r2
        exact ⟨p2, vs2, b2, c2, z2, g2.up eg⟩
      | r xs2 => exact r2
      | drw => obtain ⟨p2, b2, c2⟩ := r2; exact ⟨p2, b2, eg _ _ c2⟩
  · have f : ∀ (m : Nat) (zs : List PyData), (ρ.set i (some (.d (.list xs))))[m]? = some (some (.l zs)) → ρ[m]? = some (some (.l zs)) := fun m zs hm => by
      by_cases e : i = m
      · subst e; rw [List.getElem?_set_self hir] at hm; cases hm
      · rw [List.getElem?_set_ne e] at hm; exact hm
    exact E.own j k xs' ys' v' hjk (f j xs' hj) (f k ys' hk)
end
end DL

/-! DL2: judgements of the data layer, expressions. -/
namespace DL
open PySem PySem.Spec PyProof.Rows L2

abbrev TEd := En → (W → Prop) → Prop
abbrev TTd := En → (Bool → Prop) → Prop
abbrev TAd := En → (List W → Prop) → Prop
/-- an exception told by data: its class, its attributes -/
abbrev XEd := Value → List (Str × PyData) → Prop
/-- what is wished of an exception: over the heap, and by data -/
structure Wish where
  E : XK
  D : XEd
inductive FldR (K : PySem.W.Frag) (G : Hp) : List (Str × V) → List (Str × PyData) → Prop
  | nil : FldR K G [] []
  | cons {n : Str} {v : V} {d : PyData} {xs : List (Str × V)} {ys : List (Str × PyData)} : Is K G v d → FldR K G xs ys → FldR K G ((n, v) :: xs) ((n, d) :: ys)
def XR (K : PySem.W.Frag) (G H : Hp) (d : Option Addr) (fs : List (Str × PyData)) : Prop :=
  match d with
  | none => fs = []
  | some a => ∃ xs, H a = some (.xd xs) ∧ FldR K G xs fs
def Good (K : PySem.W.Frag) (Z : Wish) (G0 H0 : Hp) : Prop := ∀ cls d G' H' fs, Up G0 H0 G' H' → XR K G' H' d fs → Z.D cls fs → Z.E cls d H'

def Snd (K : PySem.W.Frag) (Z : Wish) (te : TE) (t : TEd) : Prop := ∀ (G0 H0 G H : Hp) (σ : L2.St) (ρ : En) (Q' : W → Prop) (Q : VK), DEnv K G0 H0 G H σ ρ → Good K Z G0 H0 → t ρ Q' →
  (∀ v w G' H', Up G H G' H' → RR K H0 H G' H' v w → Q' w → Q v H') → te σ H Q
def SndT (K : PySem.W.Frag) (Z : Wish) (te : TT) (t : TTd) : Prop := ∀ (G0 H0 G H : Hp) (σ : L2.St) (ρ : En) (Q' : Bool → Prop) (Q : Bool → Hp → Prop), DEnv K G0 H0 G H σ ρ → Good K Z G0 H0 → t ρ Q' →
  (∀ b G' H', Up G H G' H' → Q' b → Q b H') → te σ H Q
inductive RRs (K : PySem.W.Frag) (H0 Hs G H : Hp) : List V → List W → Prop
  | nil : RRs K H0 Hs G H [] []
  | cons {v : V} {w : W} {vs : List V} {ws : List W} : RR K H0 Hs G H v w → RRs K H0 Hs G H vs ws → RRs K H0 Hs G H (v :: vs) (w :: ws)
def SndA (K : PySem.W.Frag) (Z : Wish) (te : TA) (t : TAd) : Prop := ∀ (G0 H0 G H : Hp) (σ : L2.St) (ρ : En) (Q' : List W → Prop) (Q : List V → Hp → Prop), DEnv K G0 H0 G H σ ρ → Good K Z G0 H0 → t ρ Q' →
  (∀ vs ws G' H', Up G H G' H' → RRs K H0 H G' H' vs ws → Q' ws → Q vs H') → te σ H Q
def PD (X : Cx) (Z : Wish) (e : Expr) (t : TEd) : Prop := ∃ te, PE X e te ∧ Snd X.K Z te t
def PDT (X : Cx) (Z : Wish) (e : Expr) (t : TTd) : Prop := ∃ te, PT X e te ∧ SndT X.K Z te t
def PDW (X : Cx) (Z : Wish) (e : Expr) (t : TTd) : Prop := ∃ te, PW X e te ∧ SndT X.K Z te t
def PDA (X : Cx) (Z : Wish) (es : List Expr) (t : TAd) : Prop := ∃ te, PA X es te ∧ SndA X.K Z te t

theorem RRs.up {K : PySem.W.Frag} {H0 Hs G H G' H' : Hp} (u : Up G H G' H') : ∀ {vs : List V} {ws : List W}, RRs K H0 Hs G H vs ws → RRs K H0 Hs G' H' vs ws
  | _, _, .nil => .nil
  | _, _, .cons a b => .cons (a.up u) (RRs.up u b)
theorem RRs.at {K : PySem.W.Frag} {H0 Hs Hz G H : Hp} (e : Ex Hz Hs) : ∀ {vs : List V} {ws : List W}, RRs K H0 Hs G H vs ws → RRs K H0 Hz G H vs ws
  | _, _, .nil => .nil
  | _, _, .cons a b => .cons (a.at e) (RRs.at e b)
/-- laid as data, all of them -/
def frzs : List W → Option (List PyData)
  | [] => some []
  | w :: ws => match frzW w, frzs ws with
    | some x, some xs => some (x :: xs)
    | _, _ => none
theorem RRs.frz {K : PySem.W.Frag} {H0 Hs G H : Hp} (gh : Ex G H) : ∀ {vs : List V} {ws : List W} {xs : List PyData}, RRs K H0 Hs G H vs ws → frzs ws = some xs → IsAll K (frzAll Hs G H) vs xs
  | _, _, _, .nil, e => by cases e; exact .nil
  | _, _, xs, .cons (w := w) (ws := ws) a b, e => by
    unfold frzs at e
    cases e1 : frzW w with
    | none => rw [e1] at e; cases e
    | some x =>
      cases e2 : frzs ws with
      | none => rw [e1, e2] at e; cases e
      | some ys =>
        rw [e1, e2] at e; cases e
        exact .cons (a.frz gh e1) (RRs.frz gh b e2)

def onFw (w : W) (k : PyData → Prop) : Prop := match frzW w with
  | some y => k y
  | none => False
theorem onFw_of {w : W} {k : PyData → Prop} (h : onFw w k) : ∃ y, frzW w = some y ∧ k y := by
  unfold onFw at h
  split at h
  · exact ⟨_, by assumption, h⟩
  · exact h.elim
/-! ### names, constants -/
def gx : En → Nat → Option W
  | [], _ => none
  | w :: _, 0 => w
  | _ :: r, n + 1 => gx r n
theorem gx_some : ∀ {ρ : En} {i : Nat} {w : W}, gx ρ i = some w → ρ[i]? = some (some w)
  | _ :: _, 0, _, h => by simp [gx] at h; simp [h]
  | _ :: r, n + 1, _, h => by simpa using gx_some (ρ := r) (i := n) h
def rd : W → W
  | .l xs => .r xs
  | w => w
def dVar (i : Nat) : TEd := fun ρ Q => match gx ρ i with
  | some w => Q (rd w)
  | none => False
def dC (x : PyData) : TEd := fun _ Q => Q (.d x)
section
variable {X : Cx} {Z : Wish} {pos : Pos}
theorem snd_var {K : PySem.W.Frag} {i : Nat} : Snd K Z (tVar i) (dVar i) := by
  intro G0 H0 G H σ ρ Q' Q E g h k
  unfold dVar at h
  cases e : gx ρ i with
  | none => rw [e] at h; exact h.elim
  | some w =>
    rw [e] at h
    obtain ⟨v, a, r⟩ := E.slot i w (gx_some e)
    refine ⟨v, a, k v (rd w) G H (Up.refl E.gh) ?_ h⟩
    cases w with
    | l xs =>
      obtain ⟨p, vs, e1, h1, h2, h3, z, h4⟩ := r
      exact ⟨p, vs, e1, h3, z, h4⟩
    | r xs => exact r.elim
    | _ => exact r
theorem dv (i : Nat) {x : Str} (hN : X.N[i]? = some x := by rfl) (hv : Vis X.env.scope x := by first | exact Or.inl rfl | exact Or.inr (Or.inl rfl) | exact Or.inr (Or.inr rfl)) (hd : (x == ("__debug__" : Str)) = false := by decide)
    (hcd : (x == ("__classdict__" : Str)) = false := by decide) : PD X Z (.Name x pos) (dVar i) := ⟨_, pe_var hN hv hd hcd, snd_var⟩
theorem snd_c {K : PySem.W.Frag} {v : V} {x : PyData} (h : ∀ G, Is K G v x) : Snd K Z (tC v) (dC x) := fun G0 H0 G H σ ρ Q' Q E g q k => k v (.d x) G H (Up.refl E.gh) (h G) q
theorem d_int {i : Int} {j} : PD X Z (.Constant (.int i) j pos) (dC (.int i)) := ⟨_, pe_int, snd_c fun _ => .int i⟩
theorem d_bl {b : Bool} {j} : PD X Z (.Constant (.bool b) j pos) (dC (.bool b)) := ⟨_, pe_bl, snd_c fun _ => .bl b⟩
theorem d_non {j} : PD X Z (.Constant .none j pos) (dC .none) := ⟨_, pe_non, snd_c fun _ => .non⟩
theorem d_str {x : Str} {j} (hz : okS x := by exact ⟨by decide +kernel, by decide +kernel⟩) : PD X Z (.Constant (.str x) j pos) (dC (.str x)) := ⟨_, pe_str, snd_c fun _ => .str x hz⟩
/-- a module's constant -/
theorem d_globI {x : Str} {i : Int} {t : Tok} (hm : X.mg x = some (.int i t)) (hg : Gl X x := by rfl) (hd : (x == ("__debug__" : Str)) = false := by decide) : PD X Z (.Name x pos) (dC (.int i)) :=
  ⟨_, pe_glob (v := .int i) hg hm ⟨_, rfl⟩ hd, snd_c fun _ => .int i⟩
theorem d_globS {x y : Str} {t : Tok} (hm : X.mg x = some (.str y t)) (hz : okS y := by exact ⟨by decide +kernel, by decide +kernel⟩) (hg : Gl X x := by rfl) (hd : (x == ("__debug__" : Str)) = false := by decide) : PD X Z (.Name x pos) (dC (.str y)) :=
  ⟨_, pe_glob (v := .str y) hg hm ⟨_, rfl⟩ hd, snd_c fun _ => .str y hz⟩
end

/-! ### operators -/
/-- an operation on values, by data -/
def OpD (K : PySem.W.Frag) (r : R2) (g : W → W → (W → Prop) → Prop) : Prop := ∀ (G0 H0 Hx Hy G H : Hp) (σ : L2.St) (ρ : En) (x y : V) (wx wy : W) (Q' : W → Prop) (Q : VK), DEnv K G0 H0 G H σ ρ →
  RR K H0 Hx G H x wx → RR K H0 Hy G H y wy → g wx wy Q' → (∀ v w G' H', Up G H G' H' → RR K H0 H G' H' v w → Q' w → Q v H') → r x y H Q
def dOp (g : W → W → (W → Prop) → Prop) (ta tb : TEd) : TEd := fun ρ Q => ta ρ fun x => tb ρ fun y => g x y Q
section
variable {X : Cx} {Z : Wish} {pos : Pos} {a b : Expr} {ta tb : TEd} {K : PySem.W.Frag} {r : R2} {g : W → W → (W → Prop) → Prop}
theorem snd_op {ua ub : TE} (hg : OpD K r g) (ha : Snd K Z ua ta) (hb : Snd K Z ub tb) : Snd K Z (tOp r ua ub) (dOp g ta tb) := by
  intro G0 H0 G H σ ρ Q' Q E gd h k
  refine ha G0 H0 G H σ ρ _ _ E gd h fun x wx G1 H1 u1 r1 q1 => ?_
  have E1 := E.to u1
  refine hb G0 H0 G1 H1 σ ρ _ _ E1 gd q1 fun y wy G2 H2 u2 r2 q2 => ?_
  have E2 := E1.to u2
  exact hg G0 H0 H H1 G2 H2 σ ρ x y wx wy Q' Q E2 (r1.up u2) r2 q2 fun v w G3 H3 u3 r3 q3 => k v w G3 H3 ((u1.trans u2).trans u3) (r3.at (u1.trans u2).h) q3
theorem d_op {op : Operator} (ho : OpR X (binaryOp op) r) (hg : OpD X.K r g) (ha : PD X Z a ta) (hb : PD X Z b tb) : PD X Z (.BinOp a op b pos) (dOp g ta tb) := by
  obtain ⟨ua, pa, sa⟩ := ha
  obtain ⟨ub, pb, sb⟩ := hb
  exact ⟨_, pe_op ho pa pb, snd_op hg sa sb⟩
theorem d_cmp {op : CmpOp} (ho : OpR X (compareOp op) r) (hg : OpD X.K r g) (ha : PD X Z a ta) (hb : PD X Z b tb) (hm : behindInMarks op b = false := by first | exact nomark _ | rfl) : PD X Z (.Compare a [op] [b] pos) (dOp g ta tb) := by
  obtain ⟨ua, pa, sa⟩ := ha
  obtain ⟨ub, pb, sb⟩ := hb
  exact ⟨_, pe_cmpR ho pa pb hm, snd_op hg sa sb⟩
/-- a value that is a bool, as a test -/
def bTest (t : TEd) : TTd := fun ρ Q => t ρ fun w => match w with
  | .d (.bool b) => Q b
  | _ => False
theorem snd_test {u : TE} {t : TEd} (h : Snd K Z u t) : SndT K Z (tTest u) (bTest t) := by
  intro G0 H0 G H σ ρ Q' Q E gd hh k
  refine h G0 H0 G H σ ρ _ _ E gd hh fun x wx G1 H1 u1 r1 q1 => ?_
  cases wx with
  | d y =>
    cases y with
    | bool c =>
      cases r1
      exact ⟨c, rfl, k c G1 H1 u1 q1⟩
    | _ => exact q1.elim
  | _ => exact q1.elim
theorem snd_testB {u : TE} {t : TEd} (h : Snd K Z u t) : SndT K Z (tB u) (bTest t) := snd_test h
theorem dt_cmp {op : CmpOp} (ho : OpR X (compareOp op) r) (hg : OpD X.K r g) (ha : PD X Z a ta) (hb : PD X Z b tb) (hm : behindInMarks op b = false := by first | exact nomark _ | rfl) : PDT X Z (.Compare a [op] [b] pos) (bTest (dOp g ta tb)) := by
  obtain ⟨ua, pa, sa⟩ := ha
  obtain ⟨ub, pb, sb⟩ := hb
  exact ⟨_, pt_cmpR ho pa pb hm, snd_test (snd_op hg sa sb)⟩
/-- an expression (a name, a call, a constant) as a test -/
theorem dt_val {e : Expr} {t : TEd} (h : PD X Z e t) (he : ∀ whole, isTrue e X.env whole = (do let v ← whole; standAt e.pos; holding [v] (truthy v)) := by intro _; rfl) : PDT X Z e (bTest t) := by
  obtain ⟨u, p, s⟩ := h
  exact ⟨_, pt_val p he, snd_testB s⟩
def bAnd (t u : TTd) : TTd := fun ρ Q => t ρ fun c => if c = true then u ρ Q else Q false
def bOr (t u : TTd) : TTd := fun ρ Q => t ρ fun c => if c = true then Q true else u ρ Q
def bNot (t : TTd) : TTd := fun ρ Q => t ρ fun c => Q (!c)
variable {t u : TTd} {rest : List Expr}
theorem dt_not (h : PDT X Z a t) : PDT X Z (.UnaryOp .Not a pos) (bNot t) := by
  obtain ⟨ua, pa, sa⟩ := h
  refine ⟨_, pt_not pa, fun G0 H0 G H σ ρ Q' Q E gd hh k => ?_⟩
  exact sa G0 H0 G H σ ρ _ _ E gd hh fun c G1 H1 u1 q1 => k (!c) G1 H1 u1 q1
theorem dw_and1 (h : PDT X Z a t) : PDW X Z (.BoolOp .And [a] pos) t := by
  obtain ⟨ua, pa, sa⟩ := h
  exact ⟨_, pw_and1 pa, sa⟩
theorem dw_or1 (h : PDT X Z a t) : PDW X Z (.BoolOp .Or [a] pos) t := by
  obtain ⟨ua, pa, sa⟩ := h
  exact ⟨_, pw_or1 pa, sa⟩
theorem snd_and {ua ub : TT} (sa : SndT K Z ua t) (sb : SndT K Z ub u) : SndT K Z (tAnd ua ub) (bAnd t u) := by
  intro G0 H0 G H σ ρ Q' Q E gd hh k
  refine sa G0 H0 G H σ ρ _ _ E gd hh fun c G1 H1 u1 q1 => ?_
  cases c with
  | true => exact sb G0 H0 G1 H1 σ ρ _ _ (E.to u1) gd q1 fun d G2 H2 u2 q2 => k d G2 H2 (u1.trans u2) q2
  | false => exact k false G1 H1 u1 q1
theorem snd_or {ua ub : TT} (sa : SndT K Z ua t) (sb : SndT K Z ub u) : SndT K Z (tOr ua ub) (bOr t u) := by
  intro G0 H0 G H σ ρ Q' Q E gd hh k
  refine sa G0 H0 G H σ ρ _ _ E gd hh fun c G1 H1 u1 q1 => ?_
  cases c with
  | false => exact sb G0 H0 G1 H1 σ ρ _ _ (E.to u1) gd q1 fun d G2 H2 u2 q2 => k d G2 H2 (u1.trans u2) q2
  | true => exact k true G1 H1 u1 q1
theorem dw_and (ha : PDT X Z a t) (hb : PDW X Z (.BoolOp .And (b :: rest) pos) u) : PDW X Z (.BoolOp .And (a :: b :: rest) pos) (bAnd t u) := by
  obtain ⟨ua, pa, sa⟩ := ha
  obtain ⟨ub, pb, sb⟩ := hb
  exact ⟨_, pw_and pa pb, snd_and sa sb⟩
theorem dw_or (ha : PDT X Z a t) (hb : PDW X Z (.BoolOp .Or (b :: rest) pos) u) : PDW X Z (.BoolOp .Or (a :: b :: rest) pos) (bOr t u) := by
  obtain ⟨ua, pa, sa⟩ := ha
  obtain ⟨ub, pb, sb⟩ := hb
  exact ⟨_, pw_or pa pb, snd_or sa sb⟩
theorem dt_w {e : Expr} (h : PDW X Z e t) : PDT X Z e t := by
  obtain ⟨ua, pa, sa⟩ := h
  exact ⟨_, pa.pt, sa⟩
/-! .. as values -/
def onB (w : W) (k : Bool → Prop) : Prop := match w with
  | .d (.bool b) => k b
  | _ => False
def dAnd (ta tb : TEd) : TEd := fun ρ Q => ta ρ fun w => onB w fun c => if c = true then tb ρ Q else Q (.d (.bool false))
def dOr (ta tb : TEd) : TEd := fun ρ Q => ta ρ fun w => onB w fun c => if c = true then Q (.d (.bool true)) else tb ρ Q
def dNot (ta : TEd) : TEd := fun ρ Q => ta ρ fun w => onB w fun c => Q (.d (.bool (!c)))
theorem onB_of {H0 Hs G H : Hp} {v : V} {w : W} {k : Bool → Prop} (r : RR K H0 Hs G H v w) (h : onB w k) : ∃ c, v = .bl c ∧ k c := by
  cases w with
  | d y =>
    cases y with
    | bool c => cases r; exact ⟨c, rfl, h⟩
    | _ => exact h.elim
  | _ => exact h.elim
theorem d_one {op : BoolOp} {ta : TEd} (h : PD X Z a ta) : PD X Z (.BoolOp op [a] pos) ta := by
  obtain ⟨ua, pa, sa⟩ := h
  exact ⟨_, pe_one pa, sa⟩
theorem d_and (ha : PD X Z a ta) (hb : PD X Z (.BoolOp .And (b :: rest) pos) tb) : PD X Z (.BoolOp .And (a :: b :: rest) pos) (dAnd ta tb) := by
  obtain ⟨ua, pa, sa⟩ := ha
  obtain ⟨ub, pb, sb⟩ := hb
  refine ⟨_, pe_and pa pb, fun G0 H0 G H σ ρ Q' Q E gd hh k => ?_⟩
  refine sa G0 H0 G H σ ρ _ _ E gd hh fun v w G1 H1 u1 r1 q1 => ?_
  obtain ⟨c, rfl, q⟩ := onB_of r1 q1
  refine ⟨c, rfl, ?_⟩
  cases c with
  | true => exact sb G0 H0 G1 H1 σ ρ _ _ (E.to u1) gd q fun v w G2 H2 u2 r2 q2 => k v w G2 H2 (u1.trans u2) (r2.at u1.h) q2
  | false => exact k (.bl false) (.d (.bool false)) G1 H1 u1 (.bl false) q
theorem d_or (ha : PD X Z a ta) (hb : PD X Z (.BoolOp .Or (b :: rest) pos) tb) : PD X Z (.BoolOp .Or (a :: b :: rest) pos) (dOr ta tb) := by
  obtain ⟨ua, pa, sa⟩ := ha
  obtain ⟨ub, pb, sb⟩ := hb
  refine ⟨_, pe_or pa pb, fun G0 H0 G H σ ρ Q' Q E gd hh k => ?_⟩
  refine sa G0 H0 G H σ ρ _ _ E gd hh fun v w G1 H1 u1 r1 q1 => ?_
  obtain ⟨c, rfl, q⟩ := onB_of r1 q1
  refine ⟨c, rfl, ?_⟩
  cases c with
  | false => exact sb G0 H0 G1 H1 σ ρ _ _ (E.to u1) gd q fun v w G2 H2 u2 r2 q2 => k v w G2 H2 (u1.trans u2) (r2.at u1.h) q2
  | true => exact k (.bl true) (.d (.bool true)) G1 H1 u1 (.bl true) q
theorem d_not (ha : PD X Z a ta) : PD X Z (.UnaryOp .Not a pos) (dNot ta) := by
  obtain ⟨ua, pa, sa⟩ := ha
  refine ⟨_, pe_not pa, fun G0 H0 G H σ ρ Q' Q E gd hh k => ?_⟩
  refine sa G0 H0 G H σ ρ _ _ E gd hh fun v w G1 H1 u1 r1 q1 => ?_
  obtain ⟨c, rfl, q⟩ := onB_of r1 q1
  exact ⟨c, rfl, k (.bl (!c)) (.d (.bool (!c))) G1 H1 u1 (.bl _) q⟩
def dIf (t : TTd) (ta tb : TEd) : TEd := fun ρ Q => t ρ fun c => if c = true then ta ρ Q else tb ρ Q
theorem d_ifExp {c : Expr} (hc : PDT X Z c t) (ha : PD X Z a ta) (hb : PD X Z b tb) : PD X Z (.IfExp c a b pos) (dIf t ta tb) := by
  obtain ⟨uc, pc, sc⟩ := hc
  obtain ⟨ua, pa, sa⟩ := ha
  obtain ⟨ub, pb, sb⟩ := hb
  refine ⟨_, pe_ifExp pc pa pb, fun G0 H0 G H σ ρ Q' Q E gd hh k => ?_⟩
  refine sc G0 H0 G H σ ρ _ _ E gd hh fun c G1 H1 u1 q1 => ?_
  cases c with
  | true => exact sa G0 H0 G1 H1 σ ρ _ _ (E.to u1) gd q1 fun v w G2 H2 u2 r2 q2 => k v w G2 H2 (u1.trans u2) (r2.at u1.h) q2
  | false => exact sb G0 H0 G1 H1 σ ρ _ _ (E.to u1) gd q1 fun v w G2 H2 u2 r2 q2 => k v w G2 H2 (u1.trans u2) (r2.at u1.h) q2
end

/-! ### what the operators do to data -/
section
variable {X : Cx} {K : PySem.W.Frag}
theorem OpD.or {r r' : R2} {g g' : W → W → (W → Prop) → Prop} (h : OpD K r g) (h' : OpD K r' g') : OpD K (fun x y H Q => r x y H Q ∨ r' x y H Q) (fun x y Q => g x y Q ∨ g' x y Q) :=
  fun G0 H0 Hx Hy G H σ ρ x y wx wy Q' Q E rx ry q k => q.elim (fun q => .inl (h G0 H0 Hx Hy G H σ ρ x y wx wy Q' Q E rx ry q k)) fun q => .inr (h' G0 H0 Hx Hy G H σ ρ x y wx wy Q' Q E rx ry q k)
theorem OpD.weak {r : R2} {g g' : W → W → (W → Prop) → Prop} (h : OpD K r g) (f : ∀ x y Q, g' x y Q → g x y Q) : OpD K r g' :=
  fun G0 H0 Hx Hy G H σ ρ x y wx wy Q' Q E rx ry q k => h G0 H0 Hx Hy G H σ ρ x y wx wy Q' Q E rx ry (f _ _ _ q) k
def onI2 (x y : W) (k : Int → Int → Prop) : Prop := match x, y with
  | .d (.int i), .d (.int j) => k i j
  | _, _ => False
def onS2 (x y : W) (k : Str → Str → Prop) : Prop := match x, y with
  | .d (.str i), .d (.str j) => k i j
  | _, _ => False
def onT2 (x y : W) (k : List PyData → List PyData → Prop) : Prop := match x, y with
  | .d (.tuple i), .d (.tuple j) => k i j
  | _, _ => False
def onM2 (x y : W) (k : List PyData → List PyData → Prop) : Prop := match asM x, asM y with
  | some i, some j => k i j
  | _, _ => False
theorem onI2_of {H0 Hx Hy G H : Hp} {x y : V} {wx wy : W} {k : Int → Int → Prop} (rx : RR K H0 Hx G H x wx) (ry : RR K H0 Hy G H y wy) (h : onI2 wx wy k) : ∃ i j, x = .int i ∧ y = .int j ∧ k i j := by
  unfold onI2 at h
  split at h
  · cases rx; cases ry; exact ⟨_, _, rfl, rfl, h⟩
  · exact h.elim
theorem onS2_of {H0 Hx Hy G H : Hp} {x y : V} {wx wy : W} {k : Str → Str → Prop} (rx : RR K H0 Hx G H x wx) (ry : RR K H0 Hy G H y wy) (h : onS2 wx wy k) : ∃ i j, x = .str i ∧ y = .str j ∧ okS i ∧ okS j ∧ k i j := by
  unfold onS2 at h
  split at h
  · cases rx with | str _ z1 =>
    cases ry with | str _ z2 => exact ⟨_, _, rfl, rfl, z1, z2, h⟩
  · exact h.elim
theorem onT2_of {H0 Hx Hy G H : Hp} {x y : V} {wx wy : W} {k : List PyData → List PyData → Prop} (rx : RR K H0 Hx G H x wx) (ry : RR K H0 Hy G H y wy) (h : onT2 wx wy k) :
    ∃ p q xs ys us vs, x = .ref p ∧ y = .ref q ∧ SqT K G p us ∧ IsAll K G us xs ∧ SqT K G q vs ∧ IsAll K G vs ys ∧ xs.length ≤ sizeLine ∧ ys.length ≤ sizeLine ∧ k xs ys := by
  unfold onT2 at h
  split at h
  · cases rx with | tup h1 z1 a1 =>
    cases ry with | tup h2 z2 a2 => exact ⟨_, _, _, _, _, _, rfl, rfl, h1, a1, h2, a2, z1, z2, h⟩
  · exact h.elim
/-- ints by a rule without a premise -/
theorem opD_int {f : Int → Int → Int} : OpD K (rI0 fun i j => .int (f i j)) (fun x y Q => onI2 x y fun i j => Q (.d (.int (f i j)))) := by
  intro G0 H0 Hx Hy G H σ ρ x y wx wy Q' Q E rx ry q k
  obtain ⟨i, j, rfl, rfl, q⟩ := onI2_of rx ry q
  exact ⟨i, j, rfl, rfl, k _ (.d (.int (f i j))) G H (Up.refl E.gh) (.int _) q⟩
theorem opD_intC {C : Int → Int → Prop} {f : Int → Int → Int} : OpD K (rI C fun i j => .int (f i j)) (fun x y Q => onI2 x y fun i j => C i j ∧ Q (.d (.int (f i j)))) := by
  intro G0 H0 Hx Hy G H σ ρ x y wx wy Q' Q E rx ry q k
  obtain ⟨i, j, rfl, rfl, c, q⟩ := onI2_of rx ry q
  exact ⟨i, j, rfl, rfl, c, k _ (.d (.int (f i j))) G H (Up.refl E.gh) (.int _) q⟩
theorem opD_bool {f : Int → Int → Bool} : OpD K (rI0 fun i j => .bl (f i j)) (fun x y Q => onI2 x y fun i j => Q (.d (.bool (f i j)))) := by
  intro G0 H0 Hx Hy G H σ ρ x y wx wy Q' Q E rx ry q k
  obtain ⟨i, j, rfl, rfl, q⟩ := onI2_of rx ry q
  exact ⟨i, j, rfl, rfl, k _ (.d (.bool (f i j))) G H (Up.refl E.gh) (.bl _) q⟩
def gSub : W → W → (W → Prop) → Prop := fun x y Q => onI2 x y fun i j => Q (.d (.int (i - j)))
def gMod : W → W → (W → Prop) → Prop := fun x y Q => onI2 x y fun i j => 0 < j ∧ Q (.d (.int (i % j)))
def gFdiv : W → W → (W → Prop) → Prop := fun x y Q => onI2 x y fun i j => CDiv i j ∧ Q (.d (.int (i / j)))
def gMulI : W → W → (W → Prop) → Prop := fun x y Q => onI2 x y fun i j => CMul i j ∧ Q (.d (.int (i * j)))
def gPow : W → W → (W → Prop) → Prop := fun x y Q => onI2 x y fun i j => CPow i j ∧ Q (.d (.int (i ^ j.toNat)))
theorem od_sub : OpD K (rI0 fun i j => .int (i - j)) gSub := opD_int
theorem od_mod : OpD K (rI (fun _ j => 0 < j) fun i j => .int (i % j)) gMod := opD_intC
theorem od_fdiv : OpD K (rI CDiv fun i j => .int (i / j)) gFdiv := opD_intC
theorem od_mul : OpD K (rI CMul fun i j => .int (i * j)) gMulI := opD_intC
theorem od_pow : OpD K (rI CPow fun i j => .int (i ^ j.toNat)) gPow := opD_intC
def rAddS : R2 := fun x y H Q => ∃ i j, x = .str i ∧ y = .str j ∧ i.length + j.length ≤ sizeLine ∧ Q (.str (i ++ j)) H
def rAdd (K : PySem.W.Frag) : R2 := fun x y H Q => rI0 (fun i j => .int (i + j)) x y H Q ∨ rAddS x y H Q ∨ rCatA K x y H Q ∨ rCat x y H Q
theorem op_addA : OpR X (binaryOp .Add) (rAdd X.K) := op_add.or (op_add_str.or (op_catA.or op_cat))
/-- a + b: ints, texts, tuples, lists -/
def gAdd : W → W → (W → Prop) → Prop
  | .d (.int i), .d (.int j), Q => Q (.d (.int (i + j)))
  | .d (.str i), .d (.str j), Q => i.length + j.length ≤ sizeLine ∧ Q (.d (.str (i ++ j)))
  | .d (.tuple i), .d (.tuple j), Q => i.length + j.length ≤ sizeLine ∧ Q (.d (.tuple (i ++ j)))
  | x, y, Q => onM2 x y fun i j => i.length + j.length ≤ sizeLine ∧ Q (.l (i ++ j))
theorem Is.inT {G : Hp} {v : V} {xs : List PyData} (h : Is K G v (.tuple xs)) : ∃ p vs, v = .ref p ∧ SqT K G p vs ∧ xs.length ≤ sizeLine ∧ IsAll K G vs xs := by
  cases h with | tup hs z ha => exact ⟨_, _, rfl, hs, z, ha⟩
theorem str_len (a b : Str) : (a ++ b).length = a.length + b.length := by
  show (a.cps ++ b.cps).size = _
  rw [Array.size_append]; rfl
theorem okS.app {a b : Str} (ha : okS a) (hb : okS b) (z : a.length + b.length ≤ sizeLine) : okS (a ++ b) := by
  refine ⟨by rw [str_len]; exact z, ?_⟩
  have h1 := ha.2
  have h2 := hb.2
  unfold PyData.strOk at h1 h2 ⊢
  show (a.cps ++ b.cps).all _ = true
  rw [Array.all_append, h1, h2]; rfl
theorem od_add : OpD K (rAdd K) gAdd := by
  intro G0 H0 Hx Hy G H σ ρ x y wx wy Q' Q E rx ry q k
  unfold gAdd at q
  split at q
  · cases rx; cases ry
    exact .inl ⟨_, _, rfl, rfl, k _ (.d (.int _)) G H (Up.refl E.gh) (.int _) q⟩
  · cases rx with | str _ z1 =>
    cases ry with | str _ z2 =>
    obtain ⟨z, q⟩ := q
    exact .inr (.inl ⟨_, _, rfl, rfl, z, k _ (.d (.str _)) G H (Up.refl E.gh) (.str _ (z1.app z2 z)) q⟩)
  · obtain ⟨z, q⟩ := q
    obtain ⟨p, us, rfl, h1, z1, a1⟩ := Is.inT rx
    obtain ⟨p2, vs, rfl, h2, z2, a2⟩ := Is.inT ry
    rename_i i j
    refine .inr (.inr (.inl ⟨p, p2, us, vs, rfl, rfl, E.gh.sqT h1, E.gh.sqT h2, by rw [a1.len, a2.len]; exact z, fun e => ?_, fun _ e => ?_, fun _ _ p3 hp => ?_⟩))
    · subst e
      have e1 : i = [] := by have := a1.len; simpa using this.symm
      subst e1
      exact k _ (.d (.tuple j)) G H (Up.refl E.gh) ry q
    · subst e
      have e1 : j = [] := by have := a2.len; simpa using this.symm
      subst e1
      rw [List.append_nil] at q
      exact k _ (.d (.tuple i)) G H (Up.refl E.gh) rx q
    · refine k _ (.d (.tuple (i ++ j))) _ _ (Up.newG E.gh hp) (.tup (.inl (.inl upd_same)) (by rw [List.length_append]; exact z) ?_) q
      exact (a1.append a2).up (Ex.new (E.gh.back hp))
  · unfold onM2 at q
    split at q
    · rename_i i j e1 e2
      obtain ⟨z, q⟩ := q
      obtain ⟨p, us, rfl, h1, z1, a1⟩ := rx.asM E e1
      obtain ⟨p2, vs, rfl, h2, z2, a2⟩ := ry.asM E e2
      refine .inr (.inr (.inr ⟨p, p2, us, vs, rfl, rfl, h1, h2, by rw [a1.len, a2.len]; exact z, fun p3 hp => ?_⟩))
      exact k _ (.l (i ++ j)) G _ (Up.newH E.gh hp) ⟨p3, _, rfl, hp, E.gh.back hp, upd_same, by rw [List.length_append]; exact z, a1.append a2⟩ q
    · exact q.elim
def gNeg : W → (W → Prop) → Prop := fun x Q => match x with
  | .d (.int i) => Q (.d (.int (-i)))
  | _ => False
def dNeg (t : TEd) : TEd := fun ρ Q => t ρ fun x => gNeg x Q
theorem d_neg {Z : Wish} {a : Expr} {ta : TEd} {pos : Pos} (ha : PD X Z a ta) : PD X Z (.UnaryOp .USub a pos) (dNeg ta) := by
  obtain ⟨ua, pa, sa⟩ := ha
  refine ⟨_, pe_un un_neg pa, fun G0 H0 G H σ ρ Q' Q E gd hh k => ?_⟩
  refine sa G0 H0 G H σ ρ _ _ E gd hh fun v w G1 H1 u1 r1 q1 => ?_
  cases w with
  | d y =>
    cases y with
    | int i => cases r1; exact ⟨i, rfl, k _ (.d (.int (-i))) G1 H1 u1 (.int _) q1⟩
    | _ => exact q1.elim
  | _ => exact q1.elim

/-! comparisons -/
def gLt : W → W → (W → Prop) → Prop := fun x y Q => onI2 x y fun i j => Q (.d (.bool (decide (i < j))))
def gLe : W → W → (W → Prop) → Prop := fun x y Q => onI2 x y fun i j => Q (.d (.bool (decide (i ≤ j))))
def gGt : W → W → (W → Prop) → Prop := fun x y Q => onI2 x y fun i j => Q (.d (.bool (decide (j < i))))
def gGe : W → W → (W → Prop) → Prop := fun x y Q => onI2 x y fun i j => Q (.d (.bool (decide (j ≤ i))))
theorem od_lt : OpD K (rI0 fun i j => .bl (decide (i < j))) gLt := opD_bool
theorem od_le : OpD K (rI0 fun i j => .bl (decide (i ≤ j))) gLe := opD_bool
theorem od_gt : OpD K (rI0 fun i j => .bl (decide (j < i))) gGt := opD_bool
theorem od_ge : OpD K (rI0 fun i j => .bl (decide (j ≤ i))) gGe := opD_bool
/-- == of data -/
def eqD : PyData → PyData → Bool
  | .int i, .int j => decide (i = j)
  | .str i, .str j => decide (i = j)
  | .bool i, .bool j => decide (i = j)
  | x, y => PyData.eqv x y
/-- not too deep to be compared -/
def shD : PyData → Prop
  | .int _ => True
  | .str _ => True
  | .bool _ => True
  | .none => True
  | x => x.depth ≤ 64
theorem shD_ok {x : PyData} (l : x.canLay0 = true) (h : shD x) : SeqAt.shaped x = true := by
  unfold SeqAt.shaped
  rw [l, Bool.true_and, decide_eq_true_eq]
  cases x <;> first | exact h | (simp [PyData.depth])
theorem eqD_ok (x y : PyData) : eqD x y = PyData.eqv x y := by
  unfold eqD
  split
  · simp only [PyData.eqv]; rw [Bool.eq_iff_iff]; simp
  · simp only [PyData.eqv]; rw [Bool.eq_iff_iff]; simp
  · simp only [PyData.eqv]; rw [Bool.eq_iff_iff]; simp
  · rfl
def onD2 (x y : W) (k : PyData → PyData → Prop) : Prop := match asD x, asD y with
  | some i, some j => k i j
  | _, _ => False
/-- the answer of ==, of data that is not too deep -/
def eqK (x y : PyData) (k : Bool → Prop) : Prop := match x, y with
  | .int i, .int j => k (decide (i = j))
  | .str i, .str j => k (decide (i = j))
  | .bool i, .bool j => k (decide (i = j))
  | x, y => shD x ∧ shD y ∧ k (PyData.eqv x y)
theorem eqK_of {x y : PyData} {k : Bool → Prop} (h : eqK x y k) : shD x ∧ shD y ∧ k (PyData.eqv x y) := by
  rw [← eqD_ok]
  unfold eqK at h
  split at h
  · exact ⟨trivial, trivial, h⟩
  · exact ⟨trivial, trivial, h⟩
  · exact ⟨trivial, trivial, h⟩
  · rw [eqD_ok]; exact h
def gEq : W → W → (W → Prop) → Prop := fun x y Q => onD2 x y fun i j => eqK i j fun b => Q (.d (.bool b))
def gNe : W → W → (W → Prop) → Prop := fun x y Q => onD2 x y fun i j => eqK i j fun b => Q (.d (.bool (!b)))
theorem od_eq : OpD K (rEqD K) gEq := by
  intro G0 H0 Hx Hy G H σ ρ x y wx wy Q' Q E rx ry q k
  unfold gEq onD2 at q
  split at q
  · rename_i i j e1 e2
    obtain ⟨z1, z2, q⟩ := eqK_of q
    exact ⟨i, j, rx.asD E e1, ry.asD E e2, shD_ok (rx.lay e1) z1, shD_ok (ry.lay e2) z2, k _ (.d (.bool _)) G H (Up.refl E.gh) (.bl _) q⟩
  · exact q.elim
theorem od_ne : OpD K (rNeD K) gNe := by
  intro G0 H0 Hx Hy G H σ ρ x y wx wy Q' Q E rx ry q k
  unfold gNe onD2 at q
  split at q
  · rename_i i j e1 e2
    obtain ⟨z1, z2, q⟩ := eqK_of q
    exact ⟨i, j, rx.asD E e1, ry.asD E e2, shD_ok (rx.lay e1) z1, shD_ok (ry.lay e2) z2, k _ (.d (.bool _)) G H (Up.refl E.gh) (.bl _) q⟩
  · exact q.elim
/-- is None -/
def isNonW : W → Bool
  | .d .none => true
  | _ => false
theorem isNon_of {H0 Hs G H : Hp} {v : V} {w : W} (r : RR K H0 Hs G H v w) : decide (v = .non) = isNonW w := by
  cases w with
  | d y =>
    cases r <;> simp [isNonW]
  | l xs => obtain ⟨p, vs, rfl, _⟩ := r; simp [isNonW]
  | b xs => obtain ⟨p, vs, rfl, _⟩ := r; simp [isNonW]
  | r xs => obtain ⟨p, vs, rfl, _⟩ := r; simp [isNonW]
  | drw => obtain ⟨p, rfl, _⟩ := r; simp [isNonW]
def gIsN : W → W → (W → Prop) → Prop := fun x y Q => isNonW y = true ∧ Q (.d (.bool (isNonW x)))
def gNotN : W → W → (W → Prop) → Prop := fun x y Q => isNonW y = true ∧ Q (.d (.bool (!isNonW x)))
theorem od_isN : OpD K (fun x y H Q => y = .non ∧ Q (.bl (decide (x = .non))) H) gIsN := by
  intro G0 H0 Hx Hy G H σ ρ x y wx wy Q' Q E rx ry q k
  obtain ⟨z, q⟩ := q
  rw [← isNon_of ry] at z
  rw [← isNon_of rx] at q
  exact ⟨of_decide_eq_true z, k _ (.d (.bool _)) G H (Up.refl E.gh) (.bl _) q⟩
theorem od_notN : OpD K (fun x y H Q => y = .non ∧ Q (.bl (!decide (x = .non))) H) gNotN := by
  intro G0 H0 Hx Hy G H σ ρ x y wx wy Q' Q E rx ry q k
  obtain ⟨z, q⟩ := q
  rw [← isNon_of ry] at z
  rw [← isNon_of rx] at q
  exact ⟨of_decide_eq_true z, k _ (.d (.bool _)) G H (Up.refl E.gh) (.bl _) q⟩
/-- in: a text in a text, an item in a list -/
def rInA (K : PySem.W.Frag) : R2 := fun x y H Q => (∃ i j, x = .str i ∧ y = .str j ∧ Q (.bl (!(Builtin.Str.occurrences j i 0 j.length 1).isEmpty)) H) ∨ rInD K x y H Q ∨ rIn K false x y H Q
def rNotInA (K : PySem.W.Frag) : R2 := fun x y H Q => (∃ i j, x = .str i ∧ y = .str j ∧ Q (.bl (!(!(Builtin.Str.occurrences j i 0 j.length 1).isEmpty))) H) ∨ rNotInD K x y H Q ∨ rIn K true x y H Q
theorem op_inA (hu : X.A.units + 65 < cLine) : OpR X (compareOp .In) (rInA X.K) := op_in_str.or ((op_inD hu).or op_in_seq)
theorem op_notInA (hu : X.A.units + 65 < cLine) : OpR X (compareOp .NotIn) (rNotInA X.K) := op_notin_str.or ((op_notInD hu).or op_notIn_seq)
/-- a sub-text -/
def subS (i j : Str) : Bool := !(Builtin.Str.occurrences j i 0 j.length 1).isEmpty
def shAll (xs : List PyData) : Prop := PyData.depthAll xs ≤ 63
/-- scalars -/
def flatD : PyData → Bool
  | .int _ => true
  | .str _ => true
  | .bool _ => true
  | .none => true
  | _ => false
def inD (x : PyData) (ys : List PyData) : Bool := ys.any fun z => PyData.eqv z x
def gInB (neg : Bool) (x y : W) (Q : W → Prop) : Prop := match x, y with
  | .d (.str i), .d (.str j) => Q (.d (.bool (if neg then !subS i j else subS i j)))
  | x, .d (.tuple ys) => match x with
    | .d z => flatD z = true ∧ ys.all flatD = true ∧ Q (.d (.bool (if neg then !inD z ys else inD z ys)))
    | _ => False
  | x, y => match asD x, asL y with
    | some i, some ys => shD i ∧ shAll ys ∧ Q (.d (.bool (if neg then !inD i ys else inD i ys)))
    | _, _ => False
def gIn : W → W → (W → Prop) → Prop := gInB false
def gNotIn : W → W → (W → Prop) → Prop := gInB true
theorem flat_of {G : Hp} : ∀ {v : V} {d : PyData}, Is K G v d → flatD d = true → flatV v = true
  | _, _, .non, _ => rfl
  | _, _, .bl _, _ => rfl
  | _, _, .int _, _ => rfl
  | _, _, .str _ _, _ => rfl
  | _, _, .lst _ _ _, h => by simp [flatD] at h
  | _, _, .tup _ _ _, h => by simp [flatD] at h
theorem eqv_flat {G : Hp} {v u : V} {d e : PyData} (h : Is K G v d) (h' : Is K G u e) (f : flatD d = true) (f' : flatD e = true) : eqV v u = PyData.eqv d e := by
  cases h <;> cases h' <;> first | rfl | (simp [flatD] at f) | (simp [flatD] at f') | (simp [eqV, PyData.eqv])
theorem flats_of {G : Hp} : ∀ {ds : List PyData} {vs : List V}, IsAll K G vs ds → ds.all flatD = true → vs.all flatV = true
  | [], _, h, _ => by cases h; rfl
  | d :: ds, _, h, f => by
    cases h with | cons h1 h2 =>
    rw [List.all_cons, Bool.and_eq_true] at f ⊢
    exact ⟨flat_of h1 f.1, flats_of h2 f.2⟩
theorem inV_flat {G : Hp} {v : V} {d : PyData} (h : Is K G v d) (f : flatD d = true) : ∀ {ds : List PyData} {vs : List V}, IsAll K G vs ds → ds.all flatD = true → inV v vs = inD d ds
  | [], _, h, _ => by cases h; rfl
  | e :: ds, _, hs, fs => by
    cases hs with | cons h1 h2 =>
    rw [List.all_cons, Bool.and_eq_true] at fs
    have ih := inV_flat h f h2 fs.2
    unfold inV inD at ih ⊢
    rw [List.any_cons, List.any_cons, ih, eqv_flat h1 h fs.1 f]
theorem od_inB (neg : Bool) : OpD K (if neg then rNotInA K else rInA K) (gInB neg) := by
  intro G0 H0 Hx Hy G H σ ρ x y wx wy Q' Q E rx ry q k
  unfold gInB at q
  split at q
  · cases rx; cases ry
    cases neg with
    | false => exact .inl ⟨_, _, rfl, rfl, k _ (.d (.bool _)) G H (Up.refl E.gh) (.bl _) q⟩
    | true => exact .inl ⟨_, _, rfl, rfl, k _ (.d (.bool _)) G H (Up.refl E.gh) (.bl _) q⟩
  · split at q
    · obtain ⟨f1, f2, q⟩ := q
      obtain ⟨p, vs, rfl, h1, z1, a1⟩ := Is.inT ry
      have e := inV_flat rx f1 a1 f2
      cases neg with
      | false => exact .inr (.inr ⟨p, vs, rfl, .inr (E.gh.sqT h1), flat_of rx f1, flats_of a1 f2, k _ (.d (.bool _)) G H (Up.refl E.gh) (.bl _) (by rw [e]; exact q)⟩)
      | true => exact .inr (.inr ⟨p, vs, rfl, .inr (E.gh.sqT h1), flat_of rx f1, flats_of a1 f2, k _ (.d (.bool _)) G H (Up.refl E.gh) (.bl _) (by rw [e]; exact q)⟩)
    · exact q.elim
  · split at q
    · rename_i i ys e1 e2
      obtain ⟨f1, f2, q⟩ := q
      obtain ⟨p, vs, rfl, h1, z1, a1⟩ := ry.asL E e2
      have hl : Dp K H (.ref p) (.list ys) := .lst h1 (IsAll.dp _ _ (a1.up E.gh))
      have hs : SeqAt.shaped (.list ys) = true := by
        unfold SeqAt.shaped
        rw [Bool.and_eq_true, decide_eq_true_eq]
        refine ⟨by simp only [PyData.canLay0]; exact IsAll.lay _ _ a1, ?_⟩
        unfold shAll at f2
        simp only [PyData.depth]
        omega
      cases neg with
      | false => exact .inr (.inl ⟨i, ys, rx.asD E e1, hl, shD_ok (rx.lay e1) f1, hs, k _ (.d (.bool _)) G H (Up.refl E.gh) (.bl _) q⟩)
      | true => exact .inr (.inl ⟨i, ys, rx.asD E e1, hl, shD_ok (rx.lay e1) f1, hs, k _ (.d (.bool _)) G H (Up.refl E.gh) (.bl _) q⟩)
    · exact q.elim
theorem od_in : OpD K (rInA K) gIn := od_inB false
theorem od_notIn : OpD K (rNotInA K) gNotIn := od_inB true
end
end DL

/-! DL3: argument lists, displays, calls of built-ins, items, slices, what is walked, comprehensions. -/
namespace DL
open PySem PySem.Spec PyProof.Rows L2

/-! ### arguments, displays -/
def dNil : TAd := fun _ Q => Q []
def dCons (t : TEd) (u : TAd) : TAd := fun ρ Q => t ρ fun w => u ρ fun ws => Q (w :: ws)
section
variable {X : Cx} {Z : Wish} {pos : Pos} {e a b : Expr} {es : List Expr} {t ta tb : TEd} {u : TAd} {K : PySem.W.Frag}
theorem da_nil : PDA X Z [] dNil := ⟨_, pa_nil, fun G0 H0 G H σ ρ Q' Q E gd h k => k [] [] G H (Up.refl E.gh) .nil h⟩
theorem snd_cons {te : TE} {ts : TA} (s1 : Snd K Z te t) (s2 : SndA K Z ts u) : SndA K Z (tCons te ts) (dCons t u) := by
  intro G0 H0 G H σ ρ Q' Q E gd hh k
  refine s1 G0 H0 G H σ ρ _ _ E gd hh fun v w G1 H1 u1 r1 q1 => ?_
  refine s2 G0 H0 G1 H1 σ ρ _ _ (E.to u1) gd q1 fun vs ws G2 H2 u2 r2 q2 => ?_
  exact k (v :: vs) (w :: ws) G2 H2 (u1.trans u2) (.cons (r1.up u2) (r2.at u1.h)) q2
theorem da_cons (h1 : PD X Z e t) (h2 : PDA X Z es u) (hs : starEach (e :: es) X.env = (false, eval e X.env) :: starEach es X.env := by rfl) : PDA X Z (e :: es) (dCons t u) := by
  obtain ⟨te, p1, s1⟩ := h1
  obtain ⟨ts, p2, s2⟩ := h2
  exact ⟨_, pa_cons p1 p2 hs, snd_cons s1 s2⟩
def onF (ws : List W) (k : List PyData → Prop) : Prop := match frzs ws with
  | some xs => k xs
  | none => False
/-- a written display: few items -/
def fewD (xs : List PyData) (k : Prop) : Prop := if Nat.ble xs.length 1000 = true then k else False
theorem fewD_of {xs : List PyData} {k : Prop} (h : fewD xs k) : xs.length ≤ sizeLine ∧ k := by
  unfold fewD at h
  split at h
  · rename_i e
    have := Nat.le_of_ble_eq_true e
    exact ⟨by rw [sizeLine_eq]; omega, h⟩
  · exact h.elim
def dTup (u : TAd) : TEd := fun ρ Q => u ρ fun ws => onF ws fun xs => fewD xs (Q (.d (.tuple xs)))
def dLst (u : TAd) : TEd := fun ρ Q => u ρ fun ws => onF ws fun xs => fewD xs (Q (.l xs))
theorem d_tup {k0} (h : PDA X Z es u) : PD X Z (.Tuple es k0 pos) (dTup u) := by
  obtain ⟨ts, p, s⟩ := h
  refine ⟨_, pe_tup p, fun G0 H0 G H σ ρ Q' Q E gd hh k => ?_⟩
  refine s G0 H0 G H σ ρ _ _ E gd hh fun vs ws G1 H1 u1 r1 q1 => ?_
  unfold onF at q1
  cases e1 : frzs ws with
  | none => rw [e1] at q1; exact q1.elim
  | some xs =>
    rw [e1] at q1
    obtain ⟨z, q⟩ := fewD_of q1
    have a := r1.frz u1.gh e1
    refine ⟨by rw [a.len]; exact z, fun p3 hp => ?_⟩
    have u2 := frzAll_up u1
    have u3 := u2.trans (Up.newG (o := .tup vs) u2.gh hp)
    exact k (.ref p3) (.d (.tuple xs)) _ _ u3 (.tup (.inl (.inl upd_same)) z (a.up (Ex.new (u2.gh.back hp)))) q
theorem d_lst (h : PDA X Z es u) : PD X Z (.List es pos) (dLst u) := by
  obtain ⟨ts, p, s⟩ := h
  refine ⟨_, pe_lst p, fun G0 H0 G H σ ρ Q' Q E gd hh k => ?_⟩
  refine s G0 H0 G H σ ρ _ _ E gd hh fun vs ws G1 H1 u1 r1 q1 => ?_
  unfold onF at q1
  cases e1 : frzs ws with
  | none => rw [e1] at q1; exact q1.elim
  | some xs =>
    rw [e1] at q1
    obtain ⟨z, q⟩ := fewD_of q1
    have a := r1.frz u1.gh e1
    refine ⟨by rw [a.len]; exact z, fun p3 hp => ?_⟩
    have u2 := frzAll_up u1
    have u3 := u2.trans (Up.newH (o := .lst vs) u2.gh hp)
    exact k (.ref p3) (.l xs) _ _ u3 ⟨p3, vs, rfl, u1.h.back hp, u2.gh.back hp, upd_same, z, a⟩ q

/-! ### items -/
def rIxA (K : PySem.W.Frag) : R2 := rIx K
def onI (w : W) (k : Int → Prop) : Prop := match w with
  | .d (.int i) => k i
  | _ => False
theorem onI_of {H0 Hs G H : Hp} {v : V} {w : W} {k : Int → Prop} (r : RR K H0 Hs G H v w) (h : onI w k) : ∃ i, v = .int i ∧ k i := by
  unfold onI at h
  split at h
  · cases r; exact ⟨_, rfl, h⟩
  · exact h.elim
def chS (c : Nat) : PyData := .str ⟨#[c]⟩
/-- x[i] -/
def gIx : W → W → (W → Prop) → Prop := fun x y Q => onI y fun i => match x with
  | .d (.str z) => ∃ c, atI z.cps.toList i = some c ∧ Q (.d (chS c))
  | w => match asQ w with
    | some xs => ∃ d, atI xs i = some d ∧ Q (.d d)
    | none => False
theorem atI_all {G : Hp} {vs : List V} {ds : List PyData} {i : Int} {d : PyData} (h : IsAll K G vs ds) (e : atI ds i = some d) : ∃ v, atI vs i = some v ∧ Is K G v d := by
  have hl := h.len
  unfold atI at e ⊢
  rw [hl]
  cases e1 : ixN ds.length i with
  | none => rw [e1] at e; cases e
  | some j =>
    rw [e1] at e
    exact h.get e
theorem strOk_mem {z : Str} {c : Nat} (h : PyData.strOk z = true) (hc : c ∈ z.cps.toList) : c < 0x110000 := by
  unfold PyData.strOk at h
  rw [Array.all_eq_true'] at h
  have := h c (Array.mem_toList_iff.mp hc)
  simpa using this
theorem okS_ch {c : Nat} (h : c < 0x110000) : okS ⟨#[c]⟩ := by
  refine ⟨?_, ?_⟩
  · show 1 ≤ sizeLine; rw [sizeLine_eq]; decide
  · simp [PyData.strOk, h]
theorem atI_mem {α : Type} {xs : List α} {i : Int} {c : α} (h : atI xs i = some c) : c ∈ xs := by
  unfold atI at h
  cases e : ixN xs.length i with
  | none => rw [e] at h; cases h
  | some j => rw [e] at h; exact List.mem_of_getElem? h
theorem od_ix : OpD K (rIx K) gIx := by
  intro G0 H0 Hx Hy G H σ ρ x y wx wy Q' Q E rx ry q k
  unfold gIx at q
  obtain ⟨i, rfl, q⟩ := onI_of ry q
  split at q
  · obtain ⟨c, e, q⟩ := q
    cases rx with | str z ok =>
    exact .inr (.inr ⟨_, i, c, rfl, rfl, ok.1, e, k _ (.d (chS c)) G H (Up.refl E.gh) (.str _ (okS_ch (strOk_mem ok.2 (atI_mem e)))) q⟩)
  · split at q
    · rename_i xs e1
      obtain ⟨d, e, q⟩ := q
      obtain ⟨p, vs, rfl, h1, z, a⟩ := rx.asQ E e1
      obtain ⟨v, e2, i2⟩ := atI_all a e
      rcases h1 with h1 | h1
      · exact .inl ⟨p, vs, i, v, rfl, rfl, h1, e2, k v (.d d) G H (Up.refl E.gh) i2 q⟩
      · exact .inr (.inl ⟨p, vs, i, v, rfl, rfl, h1, e2, k v (.d d) G H (Up.refl E.gh) i2 q⟩)
    · exact q.elim
theorem d_ix (ha : PD X Z a ta) (hb : PD X Z b tb) (hs : PlainIx b := by exact fun _ _ => rfl) : PD X Z (.Subscript a b pos) (dOp gIx ta tb) := by
  obtain ⟨ua, pa, sa⟩ := ha
  obtain ⟨ub, pb, sb⟩ := hb
  exact ⟨_, pe_ix ix_seq pa pb hs, snd_op od_ix sa sb⟩

/-! ### slices -/
abbrev TOd := En → (Option Int → Prop) → Prop
def SndO (K : PySem.W.Frag) (Z : Wish) (te : TO) (t : TOd) : Prop := ∀ (G0 H0 G H : Hp) (σ : L2.St) (ρ : En) (Q' : Option Int → Prop) (Q : Option Int → Hp → Prop), DEnv K G0 H0 G H σ ρ → Good K Z G0 H0 → t ρ Q' →
  (∀ o G' H', Up G H G' H' → Q' o → Q o H') → te σ H Q
def PDO (X : Cx) (Z : Wish) (e : Option Expr) (t : TOd) : Prop := ∃ te, PO X e te ∧ SndO X.K Z te t
def dNoP : TOd := fun _ Q => Q none
def dPart (t : TEd) : TOd := fun ρ Q => t ρ fun w => onI w fun i => Q (some i)
theorem do_none : PDO X Z none dNoP := ⟨_, po_none, fun G0 H0 G H σ ρ Q' Q E gd h k => k none G H (Up.refl E.gh) h⟩
theorem do_some (h : PD X Z e t) : PDO X Z (some e) (dPart t) := by
  obtain ⟨te, p, s⟩ := h
  refine ⟨_, po_some p, fun G0 H0 G H σ ρ Q' Q E gd hh k => ?_⟩
  refine s G0 H0 G H σ ρ _ _ E gd hh fun v w G1 H1 u1 r1 q1 => ?_
  obtain ⟨i, rfl, q⟩ := onI_of r1 q1
  exact ⟨i, rfl, k (some i) G1 H1 u1 q⟩
def cutD (xs : List PyData) (lo hi : Option Int) : List PyData := (xs.drop (HT.sIx xs.length 0 lo)).take (HT.sIx xs.length xs.length hi - HT.sIx xs.length 0 lo)
theorem cutD_all {G : Hp} {vs : List V} {ds : List PyData} (lo hi : Option Int) (h : IsAll K G vs ds) : IsAll K G (cutV vs lo hi) (cutD ds lo hi) := by
  unfold cutV cutD
  rw [h.len]
  exact (h.drop _).take _
theorem cutD_len (xs : List PyData) (lo hi : Option Int) : (cutD xs lo hi).length ≤ xs.length := by
  unfold cutD
  rw [List.length_take, List.length_drop]
  omega
def rSlX (K : PySem.W.Frag) : V → Option Int → Option Int → Hp → VK → Prop := fun x lo hi H Q => rSlS x lo hi H Q ∨ rSlA K x lo hi H Q ∨ rSlL K x lo hi H Q
theorem sl_x : SlR X (rSlX X.K) := sl_str.or (sl_tupA.or sl_list)
def gSl (x : W) (lo hi : Option Int) (Q : W → Prop) : Prop := match x with
  | .d (.str z) => Q (.d (.str (cutS z lo hi)))
  | .d (.tuple xs) => Q (.d (.tuple (cutD xs lo hi)))
  | w => match asL w with
    | some xs => Q (.l (cutD xs lo hi))
    | none => False
def dSl (t : TEd) (l h : TOd) : TEd := fun ρ Q => t ρ fun x => l ρ fun lo => h ρ fun hi => gSl x lo hi Q
theorem okS_cut {z : Str} (lo hi : Option Int) (h : okS z) : okS (cutS z lo hi) := by
  refine ⟨Nat.le_trans (cutS_length z lo hi) h.1, ?_⟩
  have h2 := h.2
  unfold PyData.strOk at h2 ⊢
  rw [Array.all_eq_true'] at h2 ⊢
  intro c hc
  refine h2 c ?_
  have hc' : c ∈ ((z.cps.toList.drop (HT.sIx z.length 0 lo)).take (HT.sIx z.length z.length hi - HT.sIx z.length 0 lo)).toArray := hc
  rw [List.mem_toArray] at hc'
  exact Array.mem_toList_iff.mp (List.mem_of_mem_drop (List.mem_of_mem_take hc'))
theorem cutV_whole {xs : List V} {lo hi : Option Int} (h : HT.sIx xs.length 0 lo = 0 ∧ HT.sIx xs.length xs.length hi = xs.length) : cutV xs lo hi = xs := by
  unfold cutV
  rw [h.1, h.2]
  simp
theorem d_slice {lo hi : Option Expr} {p2 : Pos} {tl th : TOd} (ha : PD X Z a ta) (hl : PDO X Z lo tl) (hh : PDO X Z hi th) : PD X Z (.Subscript a (.Slice lo hi none p2) pos) (dSl ta tl th) := by
  obtain ⟨ua, pa, sa⟩ := ha
  obtain ⟨ul, pl, sl⟩ := hl
  obtain ⟨uh, ph, sh⟩ := hh
  refine ⟨_, pe_slice sl_x pa pl ph, fun G0 H0 G H σ ρ Q' Q E gd hh k => ?_⟩
  refine sa G0 H0 G H σ ρ _ _ E gd hh fun v w G1 H1 u1 r1 q1 => ?_
  refine sl G0 H0 G1 H1 σ ρ _ _ (E.to u1) gd q1 fun lo G2 H2 u2 q2 => ?_
  refine sh G0 H0 G2 H2 σ ρ _ _ ((E.to u1).to u2) gd q2 fun hi G3 H3 u3 q3 => ?_
  have u4 := (u1.trans u2).trans u3
  have r3 := r1.up (u2.trans u3)
  have E3 := E.to u4
  unfold gSl at q3
  split at q3
  · rename_i z
    cases r3 with | str _ ok => exact .inl ⟨z, rfl, ok.1, k _ (.d (.str _)) G3 H3 u4 (.str _ (okS_cut lo hi ok)) q3⟩
  · rename_i xs
    obtain ⟨p, vs, rfl, h1, z1, a1⟩ := Is.inT r3
    have c1 := cutD_all lo hi a1
    have zc := Nat.le_trans (cutD_len xs lo hi) z1
    refine .inr (.inl ⟨p, vs, rfl, E3.gh.sqT h1, fun hw => ?_, fun hw p3 hp => ?_⟩)
    · rw [cutV_whole hw] at c1
      exact k _ (.d (.tuple (cutD xs lo hi))) G3 H3 u4 (.tup h1 zc c1) q3
    · exact k _ (.d (.tuple (cutD xs lo hi))) _ _ (u4.trans (Up.newG E3.gh hp)) (.tup (.inl (.inl upd_same)) zc (c1.up (Ex.new (E3.gh.back hp)))) q3
  · split at q3
    · rename_i xs e1
      obtain ⟨p, vs, rfl, h1, z1, a1⟩ := r3.asL E3 e1
      refine .inr (.inr ⟨p, vs, rfl, h1, fun p3 hp => ?_⟩)
      exact k _ (.l (cutD xs lo hi)) _ _ (u4.trans (Up.newH E3.gh hp)) ⟨p3, _, rfl, u4.h.back hp, E3.gh.back hp, upd_same, Nat.le_trans (cutD_len xs lo hi) z1, cutD_all lo hi a1⟩ q3
    · exact q3.elim

/-! ### calls of built-ins -/
/-- a rule on values, by data -/
def CallD (K : PySem.W.Frag) (r : List V → Hp → VK → Prop) (g : List W → (W → Prop) → Prop) : Prop := ∀ (G0 H0 Hx G H : Hp) (σ : L2.St) (ρ : En) (vs : List V) (ws : List W) (Q' : W → Prop) (Q : VK), DEnv K G0 H0 G H σ ρ →
  RRs K H0 Hx G H vs ws → g ws Q' → (∀ v w G' H', Up G H G' H' → RR K H0 H G' H' v w → Q' w → Q v H') → r vs H Q
def dCB (g : List W → (W → Prop) → Prop) (u : TAd) : TEd := fun ρ Q => u ρ fun ws => g ws Q
theorem snd_cb {r : List V → Hp → VK → Prop} {g : List W → (W → Prop) → Prop} {ts : TA} (hg : CallD K r g) (s : SndA K Z ts u) : Snd K Z (tCB r ts) (dCB g u) := by
  intro G0 H0 G H σ ρ Q' Q E gd hh k
  refine s G0 H0 G H σ ρ _ _ E gd hh fun vs ws G1 H1 u1 r1 q1 => ?_
  exact hg G0 H0 H G1 H1 σ ρ vs ws Q' Q (E.to u1) r1 q1 fun v w G2 H2 u2 r2 q2 => k v w G2 H2 (u1.trans u2) (r2.at u1.h) q2
theorem d_cb {r : List V → Hp → VK → Prop} {g : List W → (W → Prop) → Prop} {x : Str} {p : Pos} {id : String} (hc : CallR X (.builtin id) r) (hg : CallD X.K r g) (hm : X.mg x = none) (hv : bootBuiltins x = some (.builtin id)) (ha : PDA X Z (e :: es) u)
    (hgl : Gl X x := by rfl) (hn : x ≠ "__name__" := by decide) (hdb : (x == ("__debug__" : Str)) = false := by decide)
    (he : starEach (e :: es) X.env = (false, eval e X.env) :: starEach es X.env := by rfl) (hpl : (backTo pos (starEach es X.env)).any (·.1) = false := by rfl) : PD X Z (.Call (.Name x p) (e :: es) [] pos) (dCB g u) := by
  obtain ⟨ts, pa, sa⟩ := ha
  exact ⟨_, pe_callB hc hgl hm hv pa hn hdb he hpl, snd_cb hg sa⟩
theorem d_cty {r : List V → Hp → VK → Prop} {g : List W → (W → Prop) → Prop} {x : Str} {p : Pos} {T : String} (hc : CallR X (.type T) r) (hg : CallD X.K r g) (hm : X.mg x = none) (hv : bootBuiltins x = some (.type T)) (ha : PDA X Z (e :: es) u)
    (hgl : Gl X x := by rfl) (hn : x ≠ "__name__" := by decide) (hdb : (x == ("__debug__" : Str)) = false := by decide)
    (he : starEach (e :: es) X.env = (false, eval e X.env) :: starEach es X.env := by rfl) (hpl : (backTo pos (starEach es X.env)).any (·.1) = false := by rfl) : PD X Z (.Call (.Name x p) (e :: es) [] pos) (dCB g u) := by
  obtain ⟨ts, pa, sa⟩ := ha
  exact ⟨_, pe_callTy hc hgl hm hv pa hn hdb he hpl, snd_cb hg sa⟩
theorem RRs.one {H0 Hs G H : Hp} {vs : List V} {w : W} (h : RRs K H0 Hs G H vs [w]) : ∃ v, vs = [v] ∧ RR K H0 Hs G H v w := by
  cases h with | cons a b => cases b; exact ⟨_, rfl, a⟩
theorem RRs.two {H0 Hs G H : Hp} {vs : List V} {w1 w2 : W} (h : RRs K H0 Hs G H vs [w1, w2]) : ∃ v1 v2, vs = [v1, v2] ∧ RR K H0 Hs G H v1 w1 ∧ RR K H0 Hs G H v2 w2 := by
  cases h with | cons a b => cases b with | cons c d => cases d; exact ⟨_, _, rfl, a, c⟩
/-- len -/
def rLen (K : PySem.W.Frag) : List V → Hp → VK → Prop := fun xs H Q => (∃ p ys, xs = [.ref p] ∧ (SqL K H p ys ∨ SqT K H p ys) ∧ Q (.int ys.length) H) ∨ (∃ z, xs = [.str z] ∧ z.length ≤ sizeLine ∧ Q (.int z.length) H)
theorem call_lenX : CallR X (.builtin "len") (rLen X.K) := call_len_seq.or call_len_str
def gLen (ws : List W) (Q : W → Prop) : Prop := match ws with
  | [.d (.str z)] => z.length ≤ 16777216 → Q (.d (.int z.length))
  | [w] => match asQ w with
    | some xs => xs.length ≤ 16777216 → Q (.d (.int xs.length))
    | none => False
  | _ => False
theorem cd_len : CallD K (rLen K) gLen := by
  intro G0 H0 Hx G H σ ρ vs ws Q' Q E r q k
  unfold gLen at q
  split at q
  · obtain ⟨v, rfl, r1⟩ := r.one
    cases r1 with | str _ ok => exact .inr ⟨_, rfl, ok.1, k _ (.d (.int _)) G H (Up.refl E.gh) (.int _) (q (sizeLine_eq ▸ ok.1))⟩
  · obtain ⟨v, rfl, r1⟩ := r.one
    split at q
    · rename_i xs e1
      obtain ⟨p, us, rfl, h1, z, a⟩ := r1.asQ E e1
      replace q := q (sizeLine_eq ▸ z)
      rw [← a.len] at q
      exact .inl ⟨p, us, rfl, h1, k _ (.d (.int _)) G H (Up.refl E.gh) (.int _) q⟩
    · exact q.elim
  · exact q.elim
/-- int(x), x an int or a bool -/
def gInt (ws : List W) (Q : W → Prop) : Prop := match ws with
  | [.d (.int i)] => Q (.d (.int i))
  | [.d (.bool b)] => Q (.d (.int (if b then 1 else 0)))
  | _ => False
theorem cd_int : CallD K (fun xs H Q => (∃ i, xs = [.int i] ∧ Q (.int i) H) ∨ ∃ k, xs = [.bl k] ∧ Q (.int (if k then 1 else 0)) H) gInt := by
  intro G0 H0 Hx G H σ ρ vs ws Q' Q E r q k
  unfold gInt at q
  split at q
  · obtain ⟨v, rfl, r1⟩ := r.one; cases r1
    exact .inl ⟨_, rfl, k _ (.d (.int _)) G H (Up.refl E.gh) (.int _) q⟩
  · obtain ⟨v, rfl, r1⟩ := r.one; cases r1
    exact .inr ⟨_, rfl, k _ (.d (.int _)) G H (Up.refl E.gh) (.int _) q⟩
  · exact q.elim
def gAbs (ws : List W) (Q : W → Prop) : Prop := match ws with
  | [.d (.int i)] => Q (.d (.int (if i < 0 then -i else i)))
  | _ => False
theorem cd_abs : CallD K (fun xs H Q => ∃ i, xs = [.int i] ∧ Q (.int (if i < 0 then -i else i)) H) gAbs := by
  intro G0 H0 Hx G H σ ρ vs ws Q' Q E r q k
  unfold gAbs at q
  split at q
  · obtain ⟨v, rfl, r1⟩ := r.one; cases r1
    exact ⟨_, rfl, k _ (.d (.int _)) G H (Up.refl E.gh) (.int _) q⟩
  · exact q.elim
/-- all, any of a list of bools -/
def boolsD : List PyData → Option (List Bool)
  | [] => some []
  | .bool b :: r => (boolsD r).map (b :: ·)
  | _ :: _ => none
theorem boolsD_eq : ∀ {xs : List PyData} {bs : List Bool}, boolsD xs = some bs → xs = bs.map .bool
  | [], _, h => by cases h; rfl
  | .bool b :: r, bs, h => by
    unfold boolsD at h
    cases e : boolsD r with
    | none => rw [e] at h; cases h
    | some cs => rw [e] at h; cases h; rw [boolsD_eq e]; rfl
  | .none :: _, _, h => by cases h
  | .int _ :: _, _, h => by cases h
  | .str _ :: _, _, h => by cases h
  | .list _ :: _, _, h => by cases h
  | .tuple _ :: _, _, h => by cases h
  | .dict _ :: _, _, h => by cases h
theorem boolsD_map (bs : List Bool) : boolsD (bs.map .bool) = some bs := by
  induction bs with
  | nil => rfl
  | cons b r ih => show (boolsD (r.map .bool)).map (b :: ·) = _; rw [ih]; rfl
def onBs (ws : List W) (k : List Bool → Prop) : Prop := match ws with
  | [w] => ∃ (xs : List PyData) (bs : List Bool), asL w = some xs ∧ xs = bs.map PyData.bool ∧ k bs
  | _ => False
def gAll (ws : List W) (Q : W → Prop) : Prop := onBs ws fun bs => Q (.d (.bool (bs.all id)))
def gAny (ws : List W) (Q : W → Prop) : Prop := onBs ws fun bs => Q (.d (.bool (bs.any id)))
theorem onBs_of {G0 H0 Hs G H : Hp} {σ : L2.St} {ρ : En} {vs : List V} {ws : List W} {k : List Bool → Prop} (E : DEnv K G0 H0 G H σ ρ) (r : RRs K H0 Hs G H vs ws) (q : onBs ws k) : ∃ a bs, vs = [V.ref a] ∧ SqL K H a (bs.map V.bl) ∧ k bs := by
  unfold onBs at q
  split at q
  · obtain ⟨v, rfl, r1⟩ := r.one
    obtain ⟨xs, bs, e1, rfl, q⟩ := q
    obtain ⟨p, us, rfl, h1, z, a⟩ := r1.asL E e1
    rw [a.bools] at h1
    exact ⟨p, bs, rfl, h1, q⟩
  · exact q.elim
theorem cd_all : CallD K (rAll K) gAll := by
  intro G0 H0 Hx G H σ ρ vs ws Q' Q E r q k
  obtain ⟨a, bs, rfl, h, q⟩ := onBs_of E r q
  exact ⟨a, bs, rfl, h, k _ (.d (.bool _)) G H (Up.refl E.gh) (.bl _) q⟩
theorem cd_any : CallD K (rAny K) gAny := by
  intro G0 H0 Hx G H σ ρ vs ws Q' Q E r q k
  obtain ⟨a, bs, rfl, h, q⟩ := onBs_of E r q
  exact ⟨a, bs, rfl, h, k _ (.d (.bool _)) G H (Up.refl E.gh) (.bl _) q⟩
/-- max of a list of ints -/
def gMax (ws : List W) (Q : W → Prop) : Prop := match ws with
  | [w] => ∃ (xs : List PyData) (ns : List Int), asL w = some xs ∧ xs = ns.map PyData.int ∧ 0 < ns.length ∧ ∀ m, m ∈ ns → (∀ y, y ∈ ns → y ≤ m) → Q (.d (.int m))
  | _ => False
theorem cd_max : CallD K (rMax K) gMax := by
  intro G0 H0 Hx G H σ ρ vs ws Q' Q E r q k
  unfold gMax at q
  split at q
  · obtain ⟨v, rfl, r1⟩ := r.one
    obtain ⟨xs, ns, e1, rfl, l, q⟩ := q
    obtain ⟨p, us, rfl, h1, z, a⟩ := r1.asL E e1
    rw [a.ints] at h1
    exact ⟨p, ns, rfl, h1, l, fun m hm hy => k _ (.d (.int m)) G H (Up.refl E.gh) (.int _) (q m hm hy)⟩
  · exact q.elim
/-- tuple(x), list(x) of a list or a tuple -/
def gTuple (ws : List W) (Q : W → Prop) : Prop := match ws with
  | [w] => match asQ w with
    | some xs => Q (.d (.tuple xs))
    | none => False
  | _ => False
def gList (ws : List W) (Q : W → Prop) : Prop := match ws with
  | [w] => match asQ w with
    | some xs => Q (.l xs)
    | none => False
  | _ => False
theorem cd_tuple : CallD K (fun xs H Q => ∃ p ys, xs = [.ref p] ∧ ((SqL K H p ys ∧ ∀ l, H l = none → Q (.ref l) (upd H l (.tup ys))) ∨ (SqT K H p ys ∧ Q (.ref p) H))) gTuple := by
  intro G0 H0 Hx G H σ ρ vs ws Q' Q E r q k
  unfold gTuple at q
  split at q
  · rename_i w
    obtain ⟨v, rfl, r1⟩ := r.one
    split at q
    · rename_i xs e1
      have key : (∃ ys, w = .d (.tuple ys)) ∨ asL w = some xs := by
        cases w with
        | d y => cases y <;> first | exact .inr e1 | exact .inl ⟨_, rfl⟩
        | _ => exact .inr e1
      rcases key with ⟨ys, rfl⟩ | e2
      · cases e1
        have r' : Is K G v (.tuple xs) := r1
        obtain ⟨p, us, rfl, h1, z, a⟩ := Is.inT r'
        exact ⟨p, us, rfl, .inr ⟨E.gh.sqT h1, k _ (.d (.tuple xs)) G H (Up.refl E.gh) r' q⟩⟩
      · obtain ⟨p, us, rfl, h1, z, a⟩ := r1.asL E e2
        exact ⟨p, us, rfl, .inl ⟨h1, fun l hl => k _ (.d (.tuple xs)) _ _ (Up.newG E.gh hl) (.tup (.inl (.inl upd_same)) z (a.up (Ex.new (E.gh.back hl)))) q⟩⟩
    · exact q.elim
  · exact q.elim
theorem cd_list : CallD K (fun xs H Q => ∃ p ys, xs = [.ref p] ∧ (SqL K H p ys ∨ SqT K H p ys) ∧ ∀ l, H l = none → Q (.ref l) (upd H l (.lst ys))) gList := by
  intro G0 H0 Hx G H σ ρ vs ws Q' Q E r q k
  unfold gList at q
  split at q
  · obtain ⟨v, rfl, r1⟩ := r.one
    split at q
    · rename_i xs e1
      obtain ⟨p, us, rfl, h1, z, a⟩ := r1.asQ E e1
      exact ⟨p, us, rfl, h1, fun l hl => k _ (.l xs) _ _ (Up.newH E.gh hl) ⟨l, us, rfl, hl, E.gh.back hl, upd_same, z, a⟩ q⟩
    · exact q.elim
  · exact q.elim
/-! isinstance -/
inductive Ty where
  | int | bool | str | tup | lst | non
  deriving DecidableEq
def Ty.nm : Ty → String
  | .int => "int" | .bool => "bool" | .str => "str" | .tup => "tuple" | .lst => "list" | .non => "NoneType"
def tyW : W → Option Ty
  | .d .none => some .non
  | .d (.bool _) => some .bool
  | .d (.int _) => some .int
  | .d (.str _) => some .str
  | .d (.list _) => some .lst
  | .d (.tuple _) => some .tup
  | .d (.dict _) => none
  | .l _ => some .lst
  | .b _ => some .lst
  | .r _ => some .lst
  | .drw => none
def isTy : Ty → Ty → Bool
  | .int, .int => true | .bool, .int => true | .bool, .bool => true | .str, .str => true | .tup, .tup => true | .lst, .lst => true | .non, .non => true
  | _, _ => false
theorem kit_isTy {K : PySem.W.Frag} (a b : Ty) : PySem.W.kitOne K (.type a.nm) (.type b.nm) = some (isTy a b) := by
  refine kit_ty ?_
  cases a <;> cases b <;> decide +kernel
theorem tyL {H : Hp} {p : Addr} {vs : List V} (h : SqL K H p vs) : TyX K H (.ref p) (.type "list") := by
  rcases h with (h | ⟨o, h⟩) | ⟨o, its, n, h1, h2, h3, h4, h5, h6⟩
  · exact .base (.lst h)
  · exact .base (.frz h)
  · exact .kList h1 h2
theorem tyT {H : Hp} {p : Addr} {vs : List V} (h : SqT K H p vs) : TyX K H (.ref p) (.type "tuple") := by
  rcases h with (h | ⟨o, h⟩) | ⟨o, its, n, h1, h2, h3, h4, h5⟩
  · exact .base (.tup h)
  · exact .fTuple h
  · exact .kTuple h1 h2
theorem tyX_of {G0 H0 Hs G H : Hp} {σ : L2.St} {ρ : En} {v : V} {w : W} {t : Ty} (E : DEnv K G0 H0 G H σ ρ) (r : RR K H0 Hs G H v w) (e : tyW w = some t) : TyX K H v (.type t.nm) := by
  cases w with
  | d y =>
    cases y with
    | none => cases e; cases r; exact .base .non
    | bool b => cases e; cases r; exact .base (.bl b)
    | int i => cases e; cases r; exact .base (.int i)
    | str x => cases e; cases r; exact .base (.str x)
    | list xs => cases e; cases r with | lst hs z ha => exact .base (.lst (E.gh _ _ hs))
    | tuple xs => cases e; cases r with | tup hs z ha => exact tyT (E.gh.sqT hs)
    | dict kvs => cases e
  | drw => cases e
  | l xs => cases e; obtain ⟨p, vs, rfl, h, z, a⟩ := RR.asL r E rfl; exact tyL h
  | b xs => cases e; obtain ⟨p, vs, rfl, h, z, a⟩ := RR.asL r E rfl; exact tyL h
  | r xs => cases e; obtain ⟨p, vs, rfl, h, z, a⟩ := RR.asL r E rfl; exact tyL h
def gIsi (ts : List Ty) (w : W) (Q : W → Prop) : Prop := match tyW w with
  | some t => Q (.d (.bool (ts.any (isTy t))))
  | none => False
def dIsi (ts : List Ty) (t : TEd) : TEd := fun ρ Q => t ρ fun w => gIsi ts w Q
/-- isinstance(e, T) -/
theorem d_isi {p p2 : Pos} {y : Str} (T : Ty) (hm : X.mg "isinstance" = none) (hmT : X.mg y = none) (hv : bootBuiltins y = some (.type T.nm)) (ha : PD X Z e t) (hv1 : bootBuiltins "isinstance" = some (.builtin "isinstance") := by decide +kernel)
    (hg : Gl X "isinstance" := by rfl) (hgT : Gl X y := by rfl) (hn : y ≠ "__name__" := by decide) (hd : (y == ("__debug__" : Str)) = false := by decide)
    (he : starEach [e, .Name y p2] X.env = (false, eval e X.env) :: starEach [.Name y p2] X.env := by rfl) (hs2 : starEach [.Name y p2] X.env = (false, eval (.Name y p2) X.env) :: starEach [] X.env := by rfl) (hpl : (backTo pos (starEach [.Name y p2] X.env)).any (·.1) = false := by rfl) :
    PD X Z (.Call (.Name "isinstance" p) [e, .Name y p2] [] pos) (dIsi [T] t) := by
  obtain ⟨te, pe, s⟩ := ha
  refine ⟨_, pe_callB call_isi hg hm hv1 (pa_cons pe (pa_cons (pe_bltn (v := .ty T.nm) hgT hmT hv rfl hn hd) pa_nil hs2) he) (by decide) (by decide) he hpl, fun G0 H0 G H σ ρ Q' Q E gd hh k => ?_⟩
  refine s G0 H0 G H σ ρ _ _ E gd hh fun v w G1 H1 u1 r1 q1 => ?_
  unfold gIsi at q1
  split at q1
  · rename_i t0 e1
    have q2 : Q' (.d (.bool (isTy t0 T))) := by simpa using q1
    exact ⟨v, .ty T.nm, _, _, _, rfl, .ty _, tyX_of (E.to u1) r1 e1, kit_isTy t0 T, k _ (.d (.bool _)) G1 H1 u1 (.bl _) q2⟩
  · exact q1.elim
/-- isinstance(e, (T1, T2)) -/
theorem d_isi2 {p p1 p2 p3 : Pos} {y1 y2 : Str} {kk} (T1 T2 : Ty) (hm : X.mg "isinstance" = none) (hm1 : X.mg y1 = none) (hv1 : bootBuiltins y1 = some (.type T1.nm)) (hm2 : X.mg y2 = none) (hv2 : bootBuiltins y2 = some (.type T2.nm)) (ha : PD X Z e t) (hv : bootBuiltins "isinstance" = some (.builtin "isinstance") := by decide +kernel)
    (hg : Gl X "isinstance" := by rfl) (hg1 : Gl X y1 := by rfl) (hg2 : Gl X y2 := by rfl) (hn1 : y1 ≠ "__name__" := by decide) (hd1 : (y1 == ("__debug__" : Str)) = false := by decide) (hn2 : y2 ≠ "__name__" := by decide) (hd2 : (y2 == ("__debug__" : Str)) = false := by decide)
    (hs1 : starEach [.Name y1 p1, .Name y2 p2] X.env = (false, eval (.Name y1 p1) X.env) :: starEach [.Name y2 p2] X.env := by rfl) (hs2 : starEach [.Name y2 p2] X.env = (false, eval (.Name y2 p2) X.env) :: starEach [] X.env := by rfl)
    (he : starEach [e, .Tuple [.Name y1 p1, .Name y2 p2] kk p3] X.env = (false, eval e X.env) :: starEach [.Tuple [.Name y1 p1, .Name y2 p2] kk p3] X.env := by rfl)
    (he2 : starEach [.Tuple [.Name y1 p1, .Name y2 p2] kk p3] X.env = (false, eval (.Tuple [.Name y1 p1, .Name y2 p2] kk p3) X.env) :: starEach [] X.env := by rfl) (hpl : (backTo pos (starEach [.Tuple [.Name y1 p1, .Name y2 p2] kk p3] X.env)).any (·.1) = false := by rfl) :
    PD X Z (.Call (.Name "isinstance" p) [e, .Tuple [.Name y1 p1, .Name y2 p2] kk p3] [] pos) (dIsi [T1, T2] t) := by
  obtain ⟨te, pe, s⟩ := ha
  refine ⟨_, pe_callB call_isiT hg hm hv (pa_cons pe (pa_cons (pe_tup (pa_cons (pe_bltn (v := .ty T1.nm) hg1 hm1 hv1 rfl hn1 hd1) (pa_cons (pe_bltn (v := .ty T2.nm) hg2 hm2 hv2 rfl hn2 hd2) pa_nil hs2) hs1)) pa_nil he2) he) (by decide) (by decide) he hpl, fun G0 H0 G H σ ρ Q' Q E gd hh k => ?_⟩
  refine s G0 H0 G H σ ρ _ _ E gd hh fun v w G1 H1 u1 r1 q1 => ?_
  unfold gIsi at q1
  split at q1
  · rename_i t0 e1
    have E1 := E.to u1
    refine ⟨by show 2 ≤ sizeLine; rw [sizeLine_eq]; decide, fun p3 hp => ?_⟩
    have u2 := Up.newH (o := .tup [.ty T1.nm, .ty T2.nm]) E1.gh hp
    have r2 := r1.up u2
    refine ⟨v, p3, [.ty T1.nm, .ty T2.nm], _, _, ([T1, T2].any (isTy t0)), rfl, upd_same, .cons (.ty _) (.cons (.ty _) .nil), tyX_of (E1.to u2) r2 e1, ?_, k _ (.d (.bool _)) G1 _ (u1.trans u2) (.bl _) q1⟩
    refine kitAny_cons (kit_isTy t0 T1) (fun h1 => kitAny_cons (kit_isTy t0 T2) (fun h2 => ?_) fun h2 => ?_) fun h1 => ?_
    · simp [h1, h2, kitAny_nil]
    · simp [h2]
    · simp [h1]
  · exact q1.elim
end
end DL

/-! DL4: what is walked, comprehensions, statements, loops. -/
namespace DL
open PySem PySem.Spec PyProof.Rows L2

/-! ### what is walked -/
/-- an iterator that yields the items ds while the heap only grows over G and Hb -/
def ItOk (K : PySem.W.Frag) (G Hb : Hp) (J : It) (ds : List PyData) : Prop := ∀ G' H', Ex G G' → Ex G' H' → Ex Hb H' → ∀ i : Nat,
  (∀ d, ds[i]? = some d → J.go i H' ∧ ∀ x H'', J.yld i H' x H'' → ∃ G'', Up G' H' G'' H'' ∧ Is K G'' x d) ∧ (ds.length ≤ i → J.stop i H')
abbrev TId := En → (List PyData → Prop) → Prop
/-- lc: a comprehension's source (it may be an own list); else a loop's -/
def SndI (lc : Bool) (K : PySem.W.Frag) (Z : Wish) (wi : TI) (t : TId) : Prop := ∀ (G0 H0 G H : Hp) (σ : L2.St) (ρ : En) (Q' : List PyData → Prop) (R : It → Hp → Prop), DEnv K G0 H0 G H σ ρ → Good K Z G0 H0 → t ρ Q' →
  (∀ J G' H' ds, Up G H G' H' → ItOk K G' (if lc then H' else H0) J ds → ds.length ≤ sizeLine → Q' ds → R J H') → wi σ H R
def PDI (lc : Bool) (X : Cx) (Z : Wish) (tg e : Expr) (t : TId) : Prop := ∃ wi, PI X tg e wi ∧ SndI lc X.K Z wi t
section
variable {X : Cx} {Z : Wish} {pos : Pos} {tg e : Expr} {t : TEd} {K : PySem.W.Frag}
/-- a list, a tuple or a text, whichever it is -/
def iSeq (K : PySem.W.Frag) (te : TE) : TI := fun σ H R => te σ H fun x H1 => (∃ a xs, x = .ref a ∧ SqL K H1 a xs ∧ R (Itl K a) H1) ∨ (∃ a xs, x = .ref a ∧ SqT K H1 a xs ∧ R (Itt K a) H1) ∨ ∃ z, x = .str z ∧ R (Its z) H1
theorem pi_seq {te : TE} (he : PE X e te) : PI X tg e (iSeq X.K te) := by
  refine ⟨fun pins s σ H R I h => ?_⟩
  refine thn (he.run pins s σ H _ I h) fun v s1 ⟨x, H1, I1, r1, q1⟩ => ?_
  rcases q1 with ⟨a, xs, rfl, hq, q⟩ | ⟨a, xs, rfl, hq, q⟩ | ⟨z, rfl, q⟩
  · cases r1
    obtain ⟨its, rv, p, hz⟩ := I1.list hq
    exact wpAny_pyIter_list p.isList (pi_one (tk := s1.toks) I1 _ (turn_list a _) ⟨_, Heap.get?_push_size _ rfl, rfl, rfl⟩ q)
  · cases r1
    obtain ⟨its, rv, p, hz⟩ := I1.tuple hq
    exact wpAny_pyIter_tuple (show s1.heap.IsTuple a its.toArray from p) (pi_one (tk := s1.toks) I1 _ (turn_tuple a _) ⟨_, Heap.get?_push_size _ rfl, rfl, rfl⟩ q)
  · obtain ⟨t, rfl⟩ := r1
    cases ha : z.cps.all (· < 128)
    · exact wpAny_pyIter_wide ha (pi_one (tk := s1.toks) I1 _ (turn_str _ z t "str_iterator" (.inr rfl)) ⟨_, Heap.get?_push_size _ rfl, rfl, rfl⟩ q)
    · exact wpAny_pyIter_ascii ha (pi_one (tk := s1.toks) I1 _ (turn_str _ z t "str_ascii_iterator" (.inl rfl)) ⟨_, Heap.get?_push_size _ rfl, rfl, rfl⟩ q)
theorem itOk_l {G Hb : Hp} {a : Addr} {vs : List V} {ds : List PyData} (h : ∀ H', Ex Hb H' → SqL K H' a vs) (al : IsAll K G vs ds) : ItOk K G Hb (Itl K a) ds := by
  intro G' H' e1 e2 e3 i
  have hs := h H' e3
  refine ⟨fun d hd => ?_, fun hi => ⟨vs, hs, by rw [al.len]; exact hi⟩⟩
  obtain ⟨v, hv, iv⟩ := al.get hd
  refine ⟨⟨vs, v, hs, hv⟩, fun x H'' y => ?_⟩
  obtain ⟨rfl, y⟩ := y
  have := y vs hs
  rw [hv] at this; cases this
  exact ⟨G', Up.refl e2, iv.up e1⟩
theorem itOk_t {G Hb : Hp} {a : Addr} {vs : List V} {ds : List PyData} (h : SqT K G a vs) (al : IsAll K G vs ds) : ItOk K G Hb (Itt K a) ds := by
  intro G' H' e1 e2 e3 i
  have hs := e2.sqT (e1.sqT h)
  refine ⟨fun d hd => ?_, fun hi => ⟨vs, hs, by rw [al.len]; exact hi⟩⟩
  obtain ⟨v, hv, iv⟩ := al.get hd
  refine ⟨⟨vs, v, hs, hv⟩, fun x H'' y => ?_⟩
  obtain ⟨rfl, y⟩ := y
  have := y vs hs
  rw [hv] at this; cases this
  exact ⟨G', Up.refl e2, iv.up e1⟩
/-- the signs of a text -/
def chsD (z : Str) : List PyData := z.cps.toList.map chS
theorem itOk_s {G Hb : Hp} {z : Str} (ok : okS z) : ItOk K G Hb (Its z) (chsD z) := by
  intro G' H' e1 e2 e3 i
  refine ⟨fun d hd => ?_, fun hi => ?_⟩
  · unfold chsD at hd
    rw [List.getElem?_map, Array.getElem?_toList] at hd
    cases hc : z.cps[i]? with
    | none => rw [hc] at hd; cases hd
    | some c =>
      rw [hc] at hd
      have hi := (Array.getElem?_eq_some_iff.mp hc).1
      refine ⟨hi, fun x H'' y => ?_⟩
      obtain ⟨rfl, c', hc', rfl⟩ := y
      rw [hc] at hc'; cases hc'
      have e : d = chS c := (Option.some.inj hd).symm
      subst e
      refine ⟨G', Up.refl e2, .str _ (okS_ch (strOk_mem ok.2 ?_))⟩
      rw [Array.mem_toList_iff]
      exact Array.mem_of_getElem? hc
  · show z.cps.size ≤ i
    unfold chsD at hi
    rw [List.length_map, Array.length_toList] at hi
    exact hi
/-- what is read item by item; in a loop not an own list -/
def gSeq (lc : Bool) (w : W) (Q : List PyData → Prop) : Prop := match w with
  | .d (.str z) => Q (chsD z)
  | .d (.tuple xs) => Q xs
  | .r xs => if lc = true then Q xs else False
  | w => match asL w with
    | some xs => Q xs
    | none => False
def dSeq (lc : Bool) (t : TEd) : TId := fun ρ Q => t ρ fun w => gSeq lc w Q
theorem di_seq {lc : Bool} (h : PD X Z e t) : PDI lc X Z tg e (dSeq lc t) := by
  obtain ⟨te, p, s⟩ := h
  refine ⟨_, pi_seq p, fun G0 H0 G H σ ρ Q' R E gd hh k => ?_⟩
  refine s G0 H0 G H σ ρ _ _ E gd hh fun v w G1 H1 u1 r1 q1 => ?_
  have E1 := E.to u1
  have lst : ∀ (xs : List PyData), (∃ p vs, v = .ref p ∧ SqL X.K H1 p vs ∧ (lc = true ∨ SqL X.K H0 p vs ∨ H p = none ∨ SqL X.K G1 p vs) ∧ xs.length ≤ sizeLine ∧ IsAll X.K G1 vs xs) → Q' xs →
      (∃ a ys, v = .ref a ∧ SqL X.K H1 a ys ∧ R (Itl X.K a) H1) := by
    rintro xs ⟨p, vs, rfl, h1, hw, z, a⟩ q
    refine ⟨p, vs, rfl, h1, ?_⟩
    have uf := frzAll_up u1
    refine k _ (frzAll H G1 H1) H1 xs uf ?_ z q
    have af := a.up (frzAll_ex (Hs := H) u1.gh)
    cases lc with
    | true => exact itOk_l (fun H' e => e.sqL h1) af
    | false =>
      rcases hw with hw | hw | hw | hw
      · cases hw
      · exact itOk_l (fun H' e => e.sqL hw) af
      · -- fresh: it is stable now
        intro G' H' e1 e2 e3
        have hg : SqL X.K (frzAll H G1 H1) p vs := by
          rcases h1 with (h1 | ⟨o, h1⟩) | h1
          · exact .inl (.inl (by rw [frzAll_new hw]; exact h1))
          · exact .inl (.inr ⟨o, by rw [frzAll_new hw]; exact h1⟩)
          · exact .inr h1
        exact itOk_l (Hb := frzAll H G1 H1) (fun H' e => e.sqL hg) af G' H' e1 e2 (e1.trans e2)
      · intro G' H' e1 e2 e3
        exact itOk_l (Hb := frzAll H G1 H1) (fun H' e => e.sqL ((frzAll_ex (Hs := H) u1.gh).sqL hw)) af G' H' e1 e2 (e1.trans e2)
  cases w with
  | d y =>
    cases y with
    | str z0 =>
      cases r1 with | str z ok =>
      refine .inr (.inr ⟨_, rfl, k _ G1 H1 _ u1 (itOk_s ok) ?_ q1⟩)
      unfold chsD
      rw [List.length_map, Array.length_toList]
      exact ok.1
    | tuple xs =>
      obtain ⟨p, vs, rfl, h1, z, a⟩ := Is.inT r1
      exact .inr (.inl ⟨p, vs, rfl, u1.gh.sqT h1, k _ G1 H1 _ u1 (itOk_t h1 a) z q1⟩)
    | list xs =>
      cases r1 with | lst hs z ha =>
      exact .inl (lst xs ⟨_, _, rfl, SqL.of (u1.gh _ _ hs), .inr (.inr (.inr (SqL.of hs))), z, ha⟩ q1)
    | _ => exact q1.elim
  | r xs =>
    have q2 : (if lc = true then Q' xs else False) := q1
    split at q2
    · rename_i hlc
      obtain ⟨p, vs, rfl, h1, z, a⟩ := RR.asL r1 E1 rfl
      exact .inl (lst xs ⟨p, vs, rfl, h1, .inl hlc, z, a⟩ q2)
    · exact q2.elim
  | l ys =>
    obtain ⟨p, vs, rfl, h1, h2, h3, z, h4⟩ := r1
    exact .inl (lst ys ⟨p, vs, rfl, SqL.of h3, .inr (.inr (.inl h1)), z, h4⟩ q1)
  | b ys =>
    obtain ⟨p, vs, rfl, h1, z, h4⟩ := r1
    exact .inl (lst ys ⟨p, vs, rfl, E1.up.h.sqL h1, .inr (.inl h1), z, h4⟩ q1)
  | drw => exact q1.elim
/-- the ints lo, lo + 1, .. (n of them) -/
def rngD (lo : Int) (n : Nat) : List PyData := (List.range n).map fun i => .int (lo + (i : Nat))
theorem rngD_get {lo : Int} {n i : Nat} (h : i < n) : (rngD lo n)[i]? = some (.int (lo + (i : Nat))) := by
  unfold rngD
  rw [List.getElem?_map, List.getElem?_range h]; rfl
theorem rngD_len (lo : Int) (n : Nat) : (rngD lo n).length = n := by unfold rngD; rw [List.length_map, List.length_range]
theorem itOk_r {G Hb : Hp} {lo : Int} {n : Nat} : ItOk K G Hb (Itr lo n) (rngD lo n) := by
  intro G' H' e1 e2 e3 i
  refine ⟨fun d hd => ?_, fun hi => by rw [rngD_len] at hi; exact hi⟩
  have hi : i < n := by
    have := (List.getElem?_eq_some_iff.mp hd).1
    rw [rngD_len] at this; exact this
  rw [rngD_get hi] at hd; cases hd
  refine ⟨hi, fun x H'' y => ?_⟩
  obtain ⟨rfl, rfl⟩ := y
  exact ⟨G', Up.refl e2, .int _⟩
def dRng1 (t : TAd) : TId := fun ρ Q => t ρ fun ws => match ws with
  | [.d (.int n)] => -(2 ^ 62) ≤ n ∧ n ≤ 16777216 ∧ Q (rngD 0 n.toNat)
  | _ => False
def dRng2 (t : TAd) : TId := fun ρ Q => t ρ fun ws => match ws with
  | [.d (.int m), .d (.int n)] => -(2 ^ 61) ≤ m ∧ m ≤ 2 ^ 61 ∧ -(2 ^ 61) ≤ n ∧ n ≤ 2 ^ 61 ∧ n - m ≤ 16777216 ∧ Q (rngD m (n - m).toNat)
  | _ => False
theorem di_rng1 {lc : Bool} {a : Expr} {t : TAd} {p : Pos} (hm : X.mg "range" = none) (ha : PDA X Z [a] t) (hg : Gl X "range" := by rfl) (hs : starEach [a] X.env = [(false, eval a X.env)] := by rfl) : PDI lc X Z tg (.Call (.Name "range" p) [a] [] pos) (dRng1 t) := by
  obtain ⟨te, pa, s⟩ := ha
  refine ⟨_, pi_range1 hg hm pa hs, fun G0 H0 G H σ ρ Q' R E gd hh k => ?_⟩
  refine s G0 H0 G H σ ρ _ _ E gd hh fun vs ws G1 H1 u1 r1 q1 => ?_
  split at q1
  · obtain ⟨v, rfl, r⟩ := r1.one
    cases r
    obtain ⟨z1, z2, q⟩ := q1
    rename_i n
    refine ⟨n, rfl, z1, by omega, k _ G1 H1 _ u1 itOk_r ?_ q⟩
    rw [rngD_len, sizeLine_eq]; omega
  · exact q1.elim
theorem di_rng2 {lc : Bool} {a b : Expr} {t : TAd} {p : Pos} (hm : X.mg "range" = none) (ha : PDA X Z [a, b] t) (hg : Gl X "range" := by rfl) (hs : starEach [a, b] X.env = [(false, eval a X.env), (false, eval b X.env)] := by rfl) (hs2 : starEach [b] X.env = [(false, eval b X.env)] := by rfl) :
    PDI lc X Z tg (.Call (.Name "range" p) [a, b] [] pos) (dRng2 t) := by
  obtain ⟨te, pa, s⟩ := ha
  refine ⟨_, pi_range2 hg hm pa hs hs2, fun G0 H0 G H σ ρ Q' R E gd hh k => ?_⟩
  refine s G0 H0 G H σ ρ _ _ E gd hh fun vs ws G1 H1 u1 r1 q1 => ?_
  split at q1
  · obtain ⟨v1, v2, rfl, ra, rb⟩ := r1.two
    cases ra; cases rb
    obtain ⟨z1, z2, z3, z4, z5, q⟩ := q1
    rename_i m n
    refine ⟨m, n, rfl, ⟨by omega, by omega, by omega, by omega⟩, k _ G1 H1 _ u1 itOk_r ?_ q⟩
    rw [rngD_len, sizeLine_eq]; omega
  · exact q1.elim
end

/-! ### targets -/
/-- a target takes a value: names, tuples of names -/
abbrev TGd := PyData → En → (En → Prop) → Prop
/-- us: the slots that it sets -/
def SndG (K : PySem.W.Frag) (us : List Nat) (g : TG) (t : TGd) : Prop := ∀ (G0 H0 G H : Hp) (σ : L2.St) (ρ : En) (d : PyData) (v : V) (Q' : En → Prop) (Q : L2.St → Hp → Prop), DEnv K G0 H0 G H σ ρ → Is K G v d → t d ρ Q' →
  (∀ σ' ρ', DEnv K G0 H0 G H σ' ρ' → σ'.length = σ.length → (∀ i, i ∉ us → σ'[i]? = σ[i]?) → Q' ρ' → Q σ' H) → g v σ H Q
def PDG (X : Cx) (us : List Nat) (e : Expr) (t : TGd) : Prop := ∃ g, PG X e g ∧ SndG X.K us g t
abbrev TGsd := List PyData → En → (En → Prop) → Prop
def SndGs (K : PySem.W.Frag) (us : List Nat) (g : TGs) (t : TGsd) : Prop := ∀ (G0 H0 G H : Hp) (σ : L2.St) (ρ : En) (ds : List PyData) (vs : List V) (Q' : En → Prop) (Q : L2.St → Hp → Prop), DEnv K G0 H0 G H σ ρ → IsAll K G vs ds → t ds ρ Q' →
  (∀ σ' ρ', DEnv K G0 H0 G H σ' ρ' → σ'.length = σ.length → (∀ i, i ∉ us → σ'[i]? = σ[i]?) → Q' ρ' → Q σ' H) → g vs σ H Q
def PDGs (X : Cx) (us : List Nat) (es : List Expr) (t : TGsd) : Prop := ∃ g, PGs X es g ∧ SndGs X.K us g t
def nG (i : Nat) : TGd := fun d ρ Q => Q (ρ.set i (some (.d d)))
def nGnil : TGsd := fun ds ρ Q => ds = [] ∧ Q ρ
def nGcons (t : TGd) (u : TGsd) : TGsd := fun ds ρ Q => match ds with
  | d :: r => t d ρ fun ρ' => u r ρ' Q
  | [] => False
def nGtup (n : Nat) (u : TGsd) : TGd := fun d ρ Q => match d with
  | .tuple xs => xs.length = n ∧ u xs ρ Q
  | _ => False
section
variable {X : Cx} {Z : Wish} {pos : Pos} {K : PySem.W.Frag}
theorem DEnv.setA {G0 H0 G H Gz Hz : Hp} {σ : L2.St} {ρ : En} {v : V} {w : W} (E : DEnv K G0 H0 G H σ ρ) (Ez : DEnv K G0 H0 Gz Hz σ ρ) (u : Up Gz Hz G H) (i : Nat) (h : RR K H0 Hz G H v w) (hb : ∀ xs, w ≠ .r xs) : DEnv K G0 H0 G H (σ.set i (some v)) (ρ.set i (some w)) := by
  by_cases hi : i < σ.length
  · exact E.set Ez u i hi h hb
  · rw [List.set_eq_of_length_le (by omega), List.set_eq_of_length_le (by rw [E.len]; omega)]
    exact E
theorem DEnv.setD {G0 H0 G H : Hp} {σ : L2.St} {ρ : En} {v : V} {d : PyData} (E : DEnv K G0 H0 G H σ ρ) (i : Nat) (h : Is K G v d) : DEnv K G0 H0 G H (σ.set i (some v)) (ρ.set i (some (.d d))) :=
  E.setA E (Up.refl E.gh) i (w := .d d) h fun xs z => nomatch z
theorem snd_nG {i : Nat} : SndG K [i] (gName i) (nG i) := by
  intro G0 H0 G H σ ρ d v Q' Q E r h k
  exact k _ _ (E.setD i r) (List.length_set ..) (fun j hj => List.getElem?_set_ne (fun e => hj (by simp [e]))) h
theorem dg_name {i : Nat} {x : Str} (hN : X.N.Nodup) (hi : X.N[i]? = some x := by rfl) (hx : Loc X.env.scope x := by first | exact Or.inl rfl | exact Or.inr rfl) (hf : X.fn x = true ∨ X.env.scope.names.lookup x = some .local := by first | exact .inl rfl | exact .inr rfl | assumption) : PDG X [i] (.Name x pos) (nG i) :=
  ⟨_, pg_name hN hi hx hf, snd_nG⟩
theorem dgs_nil : PDGs X [] [] nGnil := by
  refine ⟨_, pgs_nil, fun G0 H0 G H σ ρ ds vs Q' Q E r h k => ?_⟩
  obtain ⟨rfl, h⟩ := h
  cases r
  exact ⟨rfl, k _ _ E rfl (fun _ _ => rfl) h⟩
theorem dgs_cons {e : Expr} {es : List Expr} {t : TGd} {u : TGsd} {us1 us2 : List Nat} (h1 : PDG X us1 e t) (h2 : PDGs X us2 es u) (hs : (assignEach (e :: es) X.env).map (·.2) = assign e X.env :: (assignEach es X.env).map (·.2) := by rfl) : PDGs X (us1 ++ us2) (e :: es) (nGcons t u) := by
  obtain ⟨g, pg, sg⟩ := h1
  obtain ⟨gs, pgs, sgs⟩ := h2
  refine ⟨_, pgs_cons pg pgs hs, fun G0 H0 G H σ ρ ds vs Q' Q E r h k => ?_⟩
  cases ds with
  | nil => exact h.elim
  | cons d ds =>
    cases r with | cons r1 r2 =>
    refine ⟨_, _, rfl, sg G0 H0 G H σ ρ d _ _ _ E r1 h fun σ' ρ' E' l1 s1 h' => ?_⟩
    refine sgs G0 H0 G H σ' ρ' ds _ Q' Q E' r2 h' fun σ2 ρ2 E2 l2 s2 q => k σ2 ρ2 E2 (l2.trans l1) (fun i hi => ?_) q
    rw [List.mem_append, not_or] at hi
    rw [s2 i hi.2, s1 i hi.1]
theorem dg_tup {es : List Expr} {kk : Nat} {u : TGsd} {n : Nat} {us : List Nat} (hc : X.calm = true) (h : PDGs X us es u) (hn : (assignEach es X.env).length = n := by rfl) (hst : (assignEach es X.env).findIdx? (·.1) = none := by rfl) : PDG X us (.Tuple es kk pos) (nGtup n u) := by
  obtain ⟨gs, pgs, sgs⟩ := h
  refine ⟨_, pg_tup hc pgs hn hst, fun G0 H0 G H σ ρ d v Q' Q E r h k => ?_⟩
  unfold nGtup at h
  split at h
  · obtain ⟨hl, h⟩ := h
    obtain ⟨p, vs, rfl, h1, z, a⟩ := Is.inT r
    exact ⟨p, vs, rfl, E.gh.sqT h1, by rw [a.len]; exact hl, sgs G0 H0 G H σ ρ _ vs Q' Q E a h k⟩
  · exact h.elim
end

/-! ### comprehensions -/
def wipeD (ρ : En) : List Nat → En
  | [] => ρ
  | v :: vs => (wipeD ρ vs).set v none
theorem wipeD_len (ρ : En) : ∀ vs : List Nat, (wipeD ρ vs).length = ρ.length
  | [] => rfl
  | v :: vs => by unfold wipeD; rw [List.length_set, wipeD_len ρ vs]
theorem wipeD_some {ρ : En} {i : Nat} {w : W} : ∀ {vs : List Nat}, (wipeD ρ vs)[i]? = some (some w) → ρ[i]? = some (some w) ∧ i ∉ vs
  | [], h => ⟨h, by simp⟩
  | v :: vs, h => by
    unfold wipeD at h
    by_cases hi : v = i
    · subst hi
      by_cases hv : v < (wipeD ρ vs).length
      · rw [List.getElem?_set_self hv] at h; cases h
      · rw [List.getElem?_eq_none (by simpa using hv)] at h; cases h
    · rw [List.getElem?_set_ne hi] at h
      obtain ⟨h1, h2⟩ := wipeD_some h
      exact ⟨h1, by simp only [List.mem_cons, not_or]; exact ⟨fun e => hi e.symm, h2⟩⟩
theorem wipe_keep {σ : L2.St} {i : Nat} : ∀ {vs : List Nat}, i ∉ vs → (wipe σ vs)[i]? = σ[i]?
  | [], _ => rfl
  | v :: vs, h => by
    simp only [List.mem_cons, not_or] at h
    unfold wipe
    rw [List.getElem?_set_ne (fun e => h.1 e.symm), wipe_keep h.2]
theorem wipe_same {σ τ : L2.St} (h : σ.length = τ.length) : ∀ {vs : List Nat}, (∀ i, i ∉ vs → σ[i]? = τ[i]?) → wipe σ vs = wipe τ vs := by
  intro vs hh
  apply List.ext_getElem?
  intro i
  have key : ∀ (us : List Nat) (α : L2.St), i ∈ us → i < α.length → (wipe α us)[i]? = some none := by
    intro us α
    induction us with
    | nil => intro z; cases z
    | cons u us ih =>
      intro hi hl
      unfold wipe
      by_cases e : u = i
      · subst e
        rw [List.getElem?_set_self (by rw [wipe_length]; exact hl)]
      · rw [List.getElem?_set_ne e]
        exact ih (by rcases List.mem_cons.mp hi with z | z; exact absurd z.symm e; exact z) hl
  by_cases hi : i ∈ vs
  · by_cases hl : i < σ.length
    · rw [key vs σ hi hl, key vs τ hi (by rw [← h]; exact hl)]
    · rw [List.getElem?_eq_none (by rw [wipe_length]; omega), List.getElem?_eq_none (by rw [wipe_length]; omega)]
  · rw [wipe_keep hi, wipe_keep hi]; exact hh i hi
theorem DEnv.wipe {K : PySem.W.Frag} {G0 H0 G H : Hp} {σ : L2.St} {ρ : En} (E : DEnv K G0 H0 G H σ ρ) (vs : List Nat) : DEnv K G0 H0 G H (L2.wipe σ vs) (wipeD ρ vs) :=
  E.forget (by rw [wipeD_len, wipe_length, E.len]) fun i w h => by
    obtain ⟨h1, h2⟩ := wipeD_some h
    exact ⟨h1, wipe_keep h2⟩
/-- several tests of a clause -/
def PDTs (X : Cx) (Z : Wish) (es : List Expr) (t : TTd) : Prop := ∃ te, PTs X es te ∧ SndT X.K Z te t
def bYes : TTd := fun _ Q => Q true
section
variable {X : Cx} {Z : Wish} {pos : Pos} {K : PySem.W.Frag}
theorem dts_nil : PDTs X Z [] bYes := ⟨_, pts_nil, fun G0 H0 G H σ ρ Q' Q E gd h k => k true G H (Up.refl E.gh) h⟩
theorem dts_one {c : Expr} {t : TTd} (h : PDT X Z c t) : PDTs X Z [c] t := by
  obtain ⟨te, p, s⟩ := h
  exact ⟨_, pts_one p, s⟩
/-- [elt for target in src if ..]: I by the turn and the list so far -/
def dLc (src : TId) (g : TGd) (c : TTd) (elt : TEd) (vs : List Nat) : TEd := fun ρ Q => src ρ fun ds => ∃ I : Nat → List PyData → Prop, I 0 [] ∧
  (∀ i x acc, ds[i]? = some x → I i acc → g x (wipeD ρ vs) fun ρ' => c ρ' fun b => if b = true then elt ρ' fun w => onFw w fun y => I (i + 1) (acc ++ [y]) else I (i + 1) acc) ∧
  ∀ acc, I ds.length acc → Q (.l acc)
/-- the wish inside a comprehension: nothing is raised -/
def Z0 : Wish := ⟨fun _ _ _ => False, fun _ _ => False⟩
theorem good0 {G0 H0 : Hp} : Good K Z0 G0 H0 := fun _ _ _ _ _ _ _ h => h.elim
theorem Up.mutH {G1 H1 G H : Hp} {D : Addr} {o : HO} (u : Up G1 H1 G H) (hg : G D = none) (h1 : H1 D = none) : Up G1 H1 G (upd H D o) := ⟨u.g, u.h.mut h1, u.gh.mut hg, u.sep⟩
/-- the reading that a data reading is worth -/
def cE (K : PySem.W.Frag) (Z : Wish) (t : TEd) : TE := fun σ H Q => ∃ G0 H0 G ρ Q', DEnv K G0 H0 G H σ ρ ∧ Good K Z G0 H0 ∧ t ρ Q' ∧ ∀ v w G' H', Up G H G' H' → RR K H0 H G' H' v w → Q' w → Q v H'
def cT (K : PySem.W.Frag) (Z : Wish) (t : TTd) : TT := fun σ H Q => ∃ G0 H0 G ρ Q', DEnv K G0 H0 G H σ ρ ∧ Good K Z G0 H0 ∧ t ρ Q' ∧ ∀ b G' H', Up G H G' H' → Q' b → Q b H'
def cG (K : PySem.W.Frag) (us : List Nat) (t : TGd) : TG := fun v σ H Q => ∃ G0 H0 G ρ d Q', DEnv K G0 H0 G H σ ρ ∧ Is K G v d ∧ t d ρ Q' ∧ ∀ σ' ρ', DEnv K G0 H0 G H σ' ρ' → σ'.length = σ.length → (∀ i, i ∉ us → σ'[i]? = σ[i]?) → Q' ρ' → Q σ' H
theorem PD.pe {e : Expr} {t : TEd} (h : PD X Z e t) : PE X e (cE X.K Z t) := by
  obtain ⟨te, p, s⟩ := h
  exact ⟨fun pins s0 σ H Q I ⟨G0, H0, G, ρ, Q', E, gd, hh, k⟩ => p.run pins s0 σ H Q I (s G0 H0 G H σ ρ Q' Q E gd hh k)⟩
theorem PDTs.pts {es : List Expr} {t : TTd} (h : PDTs X Z es t) : PTs X es (cT X.K Z t) := by
  obtain ⟨te, p, s⟩ := h
  exact ⟨fun pins s0 σ H Q I ⟨G0, H0, G, ρ, Q', E, gd, hh, k⟩ => p.run pins s0 σ H Q I (s G0 H0 G H σ ρ Q' Q E gd hh k)⟩
theorem PDG.pg {us : List Nat} {e : Expr} {t : TGd} (h : PDG X us e t) : PG X e (cG X.K us t) := by
  obtain ⟨g, p, s⟩ := h
  exact ⟨fun pins s0 σ H v u Q I r ⟨G0, H0, G, ρ, d, Q', E, i, hh, k⟩ => p.run pins s0 σ H v u Q I r (s G0 H0 G H σ ρ d v Q' Q E i hh k)⟩
theorem snd_lc {wi : TI} {vs : List Nat} {src : TId} {g : TGd} {c : TTd} {elt : TEd} (hi : SndI true K Z wi src) : Snd K Z (tLc wi (cG K vs g) (cT K Z0 c) (cE K Z0 elt) vs) (dLc src g c elt vs) := by
  intro G0 H0 G H σ ρ Q' Q E gd hh k
  refine hi G0 H0 G H σ ρ _ _ E gd hh fun J G1 H1 ds u1 itok zl q D hD => ?_
  obtain ⟨I, i0, istep, iend⟩ := q
  have itok' : ItOk K G1 H1 J ds := itok
  refine ⟨fun i m H2 => m = ds.length - i ∧ i ≤ ds.length ∧ ∃ G2 acc ws, Up G1 H1 G2 H2 ∧ G2 D = none ∧ H2 D = some (.lst ws) ∧ IsAll K G2 ws acc ∧ acc.length ≤ i ∧ I i acc,
    ⟨ds.length, by simp, Nat.zero_le _, G1, [], [], Up.newH u1.gh hD, u1.gh.back hD, upd_same, .nil, Nat.le_refl _, i0⟩, ?_⟩
  rintro i m H2 ⟨rfl, hi2, G2, acc, ws, u2, gD, hw, al, la, hI⟩
  obtain ⟨t1, t2⟩ := itok' G2 H2 u2.g u2.gh u2.h i
  by_cases hlt : i < ds.length
  · obtain ⟨hgo, hy⟩ := t1 ds[i] (List.getElem?_eq_getElem hlt)
    refine .inr ⟨hgo, fun H' => ∃ m', m' < ds.length - i ∧ (m' = ds.length - (i + 1) ∧ i + 1 ≤ ds.length ∧ ∃ G2 acc ws, Up G1 H1 G2 H' ∧ G2 D = none ∧ H' D = some (.lst ws) ∧ IsAll K G2 ws acc ∧ acc.length ≤ i + 1 ∧ I (i + 1) acc), fun H' h => h, fun x H3 y => ?_⟩
    obtain ⟨G3, u3, ix⟩ := hy x H3 y
    have u13 := u2.trans u3
    have E3 := (E.to (u1.trans u13)).wipe vs
    refine ⟨G0, H0, G3, wipeD ρ vs, ds[i], _, E3, ix, istep i _ acc (List.getElem?_eq_getElem hlt) hI, fun σ' ρ' E' l' s' h' => ⟨?_, G0, H0, G3, ρ', _, E', good0, h', fun b G4 H4 u4 q4 => ?_⟩⟩
    · have e1 : wipe σ' vs = wipe (wipe σ vs) vs := wipe_same l' s'
      rw [e1]
      exact wipe_same (wipe_length σ vs) fun i hi => wipe_keep hi
    · have u14 := u13.trans u4
      have hD4 : H4 D = some (.lst ws) := u4.h _ _ (u3.h _ _ hw)
      have gD4 : G4 D = none := u4.sep D (by rw [u3.h _ _ hw]; exact fun z => nomatch z) (u3.sep D (by rw [hw]; exact fun z => nomatch z) gD)
      cases b with
      | true =>
        replace q4 := (show (if true = true then _ else _) from q4)
        rw [if_pos rfl] at q4
        refine iteT ?_
        refine ⟨G0, H0, G4, ρ', _, E'.to u4, good0, q4, fun v w G5 H5 u5 r5 q5 => ?_⟩
        obtain ⟨y', e1, hI'⟩ := onFw_of q5
        have hD5 : H5 D = some (.lst ws) := u5.h _ _ hD4
        have gD5 : (frzAll H4 G5 H5) D = none := by
          unfold frzAll
          rw [if_neg (by rw [hD4]; exact fun z => nomatch z)]
          exact u5.sep D (by rw [hD4]; exact fun z => nomatch z) gD4
        have u6 := u14.trans (frzAll_up u5)
        have iv := r5.frz u5.gh e1
        refine ⟨ws, hD5, by rw [al.len]; omega, ds.length - (i + 1), by omega, rfl, hlt, frzAll H4 G5 H5, acc ++ [y'], ws ++ [v], u6.mutH gD5 hD, gD5, upd_same, ?_, by rw [List.length_append]; simp; omega, hI'⟩
        exact (al.up ((u3.g.trans u4.g).trans (frzAll_up u5).g)).append (.one iv)
      | false =>
        have e0 : ¬ (false = true) := Bool.false_ne_true
        replace q4 := (show (if false = true then _ else _) from q4)
        rw [if_neg e0] at q4
        refine iteF ?_
        exact ⟨ds.length - (i + 1), by omega, rfl, hlt, G4, acc, ws, u14, gD4, hD4, al.up (u3.g.trans u4.g), by omega, q4⟩
  · have e : i = ds.length := by omega
    subst e
    exact .inl ⟨t2 (Nat.le_refl _), k (.ref D) (.l acc) G2 H2 (u1.trans u2) ⟨D, ws, rfl, u1.h.back hD, gD, hw, by omega, al⟩ (iend acc hI)⟩
/-- [elt for target in src if ..] as a value; own: the comprehension's names with their slots -/
theorem d_lc {elt tg iter : Expr} {ifs : List Expr} {scope : Scope} {own : List (Str × Nat)} {src : TId} {g : TGd} {c : TTd} {t : TEd} (hc : X.calm = true) (hN : X.N.Nodup) (hi : PDI true X Z tg iter src) (ok : BlkOk X.N X.env.scope scope own)
    (hg : ∀ (s : Shared) (H : Hp) (C : Addr) (cl : List (Str × Addr)) (fp : List Addr), PDG (X.blk s H scope (compEnvC scope cl C X.env) fp) (own.map (·.2)) tg g) (ht : ∀ (s : Shared) (H : Hp) (C : Addr) (cl : List (Str × Addr)) (fp : List Addr), PDTs (X.blk s H scope (compEnvC scope cl C X.env) fp) Z0 ifs c)
    (he : ∀ (s : Shared) (H : Hp) (C : Addr) (cl : List (Str × Addr)) (fp : List Addr), PD (X.blk s H scope (compEnvC scope cl C X.env) fp) Z0 elt t) (hs : ∀ x, foldedSetIterable iter X.env x = pure x := by intro _; rfl) :
    PD X Z (.ListComp elt [⟨tg, iter, ifs, 0⟩] scope pos) (dLc src g c t (own.map (·.2))) := by
  obtain ⟨wi, p, s⟩ := hi
  exact ⟨_, pe_lc hc hN p ok (fun s H C cl fp => (hg s H C cl fp).pg) (fun s H C cl fp => (ht s H C cl fp).pts) (fun s H C cl fp => (he s H C cl fp).pe) hs, snd_lc s⟩
end

/-! ### statements -/
structure Dn where
  nx : En → Prop
  rt : W → Prop
  bk : En → Prop := fun _ => False
  ct : En → Prop := fun _ => False
abbrev TSd := Dn → En → Prop
def SndS (K : PySem.W.Frag) (Z : Wish) (ts : TS) (t : TSd) : Prop := ∀ (G0 H0 G H : Hp) (σ : L2.St) (ρ : En) (D' : Dn) (D : Ends), DEnv K G0 H0 G H σ ρ → Good K Z G0 H0 → t D' ρ →
  (∀ σ' G' H' ρ', DEnv K G0 H0 G' H' σ' ρ' → D'.nx ρ' → D.nx σ' H') → (∀ v w G' H', Up G0 H0 G' H' → RR K H0 H0 G' H' v w → D'.rt w → D.rt v H') →
  (∀ σ' G' H' ρ', DEnv K G0 H0 G' H' σ' ρ' → D'.bk ρ' → D.bk σ' H') → (∀ σ' G' H' ρ', DEnv K G0 H0 G' H' σ' ρ' → D'.ct ρ' → D.ct σ' H') → ts D σ H
def PDS (X : Cx) (Z : Wish) (st : Stmt) (t : TSd) : Prop := ∃ ts, PS X st ts ∧ SndS X.K Z ts t
def PDSs (X : Cx) (Z : Wish) (st : List Stmt) (t : TSd) : Prop := ∃ ts, PSs X st ts ∧ SndS X.K Z ts t
def sNext : TSd := fun D ρ => D.nx ρ
def sSeq (t u : TSd) : TSd := fun D ρ => t { D with nx := u D } ρ
def sBrk : TSd := fun D ρ => D.bk ρ
def sCont : TSd := fun D ρ => D.ct ρ
def sRet (t : TEd) : TSd := fun D ρ => t ρ D.rt
def sIf (c : TTd) (t u : TSd) : TSd := fun D ρ => c ρ fun b => if b = true then t D ρ else u D ρ
def noR (w : W) (p : Prop) : Prop := match w with
  | .r _ => False
  | _ => p
theorem noR_of {w : W} {p : Prop} (h : noR w p) : (∀ xs, w ≠ .r xs) ∧ p := by
  cases w with
  | r xs => exact h.elim
  | _ => exact ⟨fun xs z => (nomatch z), h⟩
def sSet (i : Nat) (t : TEd) : TSd := fun D ρ => t ρ fun w => noR w (D.nx (ρ.set i (some w)))
section
variable {X : Cx} {Z : Wish} {pos : Pos} {K : PySem.W.Frag} {st : Stmt} {rest : List Stmt} {t u : TSd} {e : Expr} {te : TEd}
theorem dss_nil : PDSs X Z [] sNext := ⟨_, pss_nil, fun G0 H0 G H σ ρ D' D E gd h n r b c => n σ G H ρ E h⟩
theorem dss_cons (h1 : PDS X Z st t) (h2 : PDSs X Z rest u) : PDSs X Z (st :: rest) (sSeq t u) := by
  obtain ⟨t1, p1, s1⟩ := h1
  obtain ⟨t2, p2, s2⟩ := h2
  refine ⟨_, pss_cons p1 p2, fun G0 H0 G H σ ρ D' D E gd h n r b c => ?_⟩
  exact s1 G0 H0 G H σ ρ { D' with nx := u D' } { D with nx := t2 D } E gd h (fun σ' G' H' ρ' E' q => s2 G0 H0 G' H' σ' ρ' D' D E' gd q n r b c) r b c
theorem dss_one (h1 : PDS X Z st t) : PDSs X Z [st] t := by
  obtain ⟨t1, p1, s1⟩ := h1
  exact ⟨_, pss_one p1, s1⟩
/-- a word between two statements: what follows is shown once, from M -/
def sCut (t u : TSd) : TSd := fun D ρ => ∃ M : En → Prop, t { D with nx := M } ρ ∧ ∀ ρ', M ρ' → u D ρ'
theorem dss_cut (h1 : PDS X Z st t) (h2 : PDSs X Z rest u) : PDSs X Z (st :: rest) (sCut t u) := by
  obtain ⟨t1, p1, s1⟩ := h1
  obtain ⟨t2, p2, s2⟩ := h2
  refine ⟨_, pss_cons p1 p2, fun G0 H0 G H σ ρ D' D E gd h n r b c => ?_⟩
  obtain ⟨M, h1, h2⟩ := h
  exact s1 G0 H0 G H σ ρ { D' with nx := M } { D with nx := t2 D } E gd h1 (fun σ' G' H' ρ' E' q => s2 G0 H0 G' H' σ' ρ' D' D E' gd (h2 ρ' q) n r b c) r b c
theorem ds_pass : PDS X Z (.Pass pos) sNext := ⟨_, ps_pass, fun G0 H0 G H σ ρ D' D E gd h n r b c => n σ G H ρ E h⟩
theorem ds_break : PDS X Z (.Break pos) sBrk := ⟨_, ps_break, fun G0 H0 G H σ ρ D' D E gd h n r b c => b σ G H ρ E h⟩
theorem ds_continue : PDS X Z (.Continue pos) sCont := ⟨_, ps_continue, fun G0 H0 G H σ ρ D' D E gd h n r b c => c σ G H ρ E h⟩
theorem ds_ret (h : PD X Z e te) : PDS X Z (.Return (some e) pos) (sRet te) := by
  obtain ⟨t1, p1, s1⟩ := h
  refine ⟨_, ps_ret p1, fun G0 H0 G H σ ρ D' D E gd h n r b c => ?_⟩
  exact s1 G0 H0 G H σ ρ _ _ E gd h fun v w G' H' u1 r1 q1 => r v w G' H' (E.up.trans u1) (r1.at E.up.h) q1
/-- return of a name: an own list is handed out -/
def sRetv (i : Nat) : TSd := fun D ρ => match gx ρ i with
  | some w => D.rt w
  | none => False
theorem ds_retv (i : Nat) {x : Str} {pos' : Pos} (hN : X.N[i]? = some x := by rfl) (hv : Vis X.env.scope x := by first | exact Or.inl rfl | exact Or.inr (Or.inl rfl) | exact Or.inr (Or.inr rfl)) (hd : (x == ("__debug__" : Str)) = false := by decide)
    (hcd : (x == ("__classdict__" : Str)) = false := by decide) : PDS X Z (.Return (some (.Name x pos')) pos) (sRetv i) := by
  refine ⟨_, ps_ret (pe_var hN hv hd hcd), fun G0 H0 G H σ ρ D' D E gd h n r b c => ?_⟩
  unfold sRetv at h
  cases e : gx ρ i with
  | none => rw [e] at h; exact h.elim
  | some w =>
    rw [e] at h
    obtain ⟨v, a, sr⟩ := E.slot i w (gx_some e)
    refine ⟨v, a, r v w G H E.up ?_ h⟩
    cases w with
    | r xs => exact sr.elim
    | _ => exact sr
theorem ds_retN : PDS X Z (.Return none pos) (fun D ρ => D.rt (.d .none)) := ⟨_, ps_retN, fun G0 H0 G H σ ρ D' D E gd h n r b c => r .non (.d .none) G H E.up .non h⟩
theorem ds_if {ce : Expr} {a b : List Stmt} {c : TTd} (hc : PDT X Z ce c) (ha : PDSs X Z a t) (hb : PDSs X Z b u) : PDS X Z (.If ce a b pos) (sIf c t u) := by
  obtain ⟨uc, pc, sc⟩ := hc
  obtain ⟨ua, pa, sa⟩ := ha
  obtain ⟨ub, pb, sb⟩ := hb
  refine ⟨_, ps_if pc pa pb, fun G0 H0 G H σ ρ D' D E gd h n r b c => ?_⟩
  refine sc G0 H0 G H σ ρ _ _ E gd h fun d G1 H1 u1 q1 => ?_
  cases d with
  | true => exact sa G0 H0 G1 H1 σ ρ D' D (E.to u1) gd q1 n r b c
  | false => exact sb G0 H0 G1 H1 σ ρ D' D (E.to u1) gd q1 n r b c
theorem snd_set {i : Nat} {ue : TE} (s1 : Snd K Z ue te) : SndS K Z (tAsg ue (gName i)) (sSet i te) := by
  intro G0 H0 G H σ ρ D' D E gd h n r b c
  refine s1 G0 H0 G H σ ρ _ _ E gd h fun v w G1 H1 u1 r1 q1 => ?_
  obtain ⟨hw, q⟩ := noR_of q1
  exact n _ G1 H1 _ ((E.to u1).setA E u1 i r1 hw) q
theorem ds_set {i : Nat} {x : Str} {pos' : Pos} (hN : X.N.Nodup) (he : PD X Z e te) (hi : X.N[i]? = some x := by rfl) (hx : Loc X.env.scope x := by first | exact Or.inl rfl | exact Or.inr rfl) (hs : swapsWith e (some (.Name x pos')) pos.line X.env = pure false := by rfl) (hf : X.fn x = true ∨ X.env.scope.names.lookup x = some .local := by first | exact .inl rfl | exact .inr rfl | assumption) :
    PDS X Z (.Assign [.Name x pos'] e pos) (sSet i te) := by
  obtain ⟨t1, p1, s1⟩ := he
  exact ⟨_, ps_set hN hi hx p1 hs hf, snd_set s1⟩
theorem ds_setLc {i : Nat} {y : Str} {py : Pos} {elt tg iter : Expr} {ifs : List Expr} {scope : Scope} {own : List (Str × Nat)} {spos : Pos} {src : TId} {g : TGd} {c : TTd} {t : TEd} (hc : X.calm = true) (hN : X.N.Nodup)
    (hsw : swapsWith (.ListComp elt [⟨tg, iter, ifs, 0⟩] scope pos) (some (.Name y py)) spos.line X.env = pure true) (hi : PDI true X Z tg iter src) (ok : BlkOk X.N X.env.scope scope own)
    (hg : ∀ (s : Shared) (H : Hp) (C : Addr) (cl : List (Str × Addr)) (fp : List Addr), PDG (X.blk s H scope (compEnvC scope cl C X.env) fp) (own.map (·.2)) tg g) (ht : ∀ (s : Shared) (H : Hp) (C : Addr) (cl : List (Str × Addr)) (fp : List Addr), PDTs (X.blk s H scope (compEnvC scope cl C X.env) fp) Z0 ifs c)
    (he : ∀ (s : Shared) (H : Hp) (C : Addr) (cl : List (Str × Addr)) (fp : List Addr), PD (X.blk s H scope (compEnvC scope cl C X.env) fp) Z0 elt t) (hy : X.N[i]? = some y := by rfl) (hyl : X.env.scope.names.lookup y = some .local := by rfl) (hs : ∀ x, foldedSetIterable iter X.env x = pure x := by intro _; rfl) :
    PDS X Z (.Assign [.Name y py] (.ListComp elt [⟨tg, iter, ifs, 0⟩] scope pos) spos) (sSet i (dLc src g c t (own.map (·.2)))) := by
  obtain ⟨wi, p, s⟩ := hi
  exact ⟨_, ps_setLc hc hN hy hyl hsw p ok (fun s H C cl fp => (hg s H C cl fp).pg) (fun s H C cl fp => (ht s H C cl fp).pts) (fun s H C cl fp => (he s H C cl fp).pe) hs, snd_set (snd_lc s)⟩
/-- a, b = e -/
def sAsg (te : TEd) (g : TGd) : TSd := fun D ρ => te ρ fun w => match w with
  | .d d => g d ρ D.nx
  | _ => False
theorem ds_asg {tg : Expr} {g : TGd} {us : List Nat} (he : PD X Z e te) (hg : PDG X us tg g) (hs : swapsWithSole [tg] e pos.line X.env = pure false := by rfl) (hw : swappedStores [tg] e X.env = pure none := by rfl)
    (h1 : (assignEach [tg] X.env).map (·.2) = [assign tg X.env] := by rfl) : PDS X Z (.Assign [tg] e pos) (sAsg te g) := by
  obtain ⟨t1, p1, s1⟩ := he
  obtain ⟨g1, pg, sg⟩ := hg
  refine ⟨_, ps_asg p1 pg hs hw h1, fun G0 H0 G H σ ρ D' D E gd h n r b c => ?_⟩
  refine s1 G0 H0 G H σ ρ _ _ E gd h fun v w G1 H1 u1 r1 q1 => ?_
  cases w with
  | d d => exact sg G0 H0 G1 H1 σ ρ d v _ _ (E.to u1) r1 q1 fun σ' ρ' E' _ _ q => n σ' G1 H1 ρ' E' q
  | _ => exact q1.elim
/-- an expression dropped -/
def sDrop (te : TEd) : TSd := fun D ρ => te ρ fun _ => D.nx ρ
theorem ds_expr (he : PD X Z e te) (hs : swapsWith e none pos.line X.env = pure false := by rfl) : PDS X Z (.Expr e pos) (sDrop te) := by
  obtain ⟨t1, p1, s1⟩ := he
  refine ⟨_, ps_expr p1 hs, fun G0 H0 G H σ ρ D' D E gd h n r b c => ?_⟩
  exact s1 G0 H0 G H σ ρ _ _ E gd h fun v w G1 H1 u1 r1 q1 => n σ G1 H1 ρ (E.to u1) q1
theorem ds_doc {x j pos'} : PDS X Z (.Expr (.Constant (.str x) j pos) pos') sNext := ⟨_, ps_doc, fun G0 H0 G H σ ρ D' D E gd h n r b c => n σ G H ρ E h⟩
/-- an own list is data from here on -/
def sFrz (i : Nat) (t : TSd) : TSd := fun D ρ => match gx ρ i with
  | some (.l xs) => t D (ρ.set i (some (.d (.list xs))))
  | _ => False
theorem ds_frz (i : Nat) (h : PDS X Z st t) : PDS X Z st (sFrz i t) := by
  obtain ⟨t1, p1, s1⟩ := h
  refine ⟨_, p1, fun G0 H0 G H σ ρ D' D E gd h n r b c => ?_⟩
  unfold sFrz at h
  split at h
  · rename_i xs e1
    obtain ⟨G', E'⟩ := E.freeze (gx_some e1)
    exact s1 G0 H0 G' H σ _ D' D E' gd h n r b c
  · exact h.elim
/-! ### an own list changed -/
theorem own_at {G0 H0 G H : Hp} {σ : L2.St} {ρ : En} {i : Nat} {xs : List PyData} (E : DEnv K G0 H0 G H σ ρ) (h : gx ρ i = some (.l xs)) : ∃ p vs, σ[i]? = some (some (.ref p)) ∧ H p = some (.lst vs) ∧ xs.length ≤ sizeLine ∧ IsAll K G vs xs := by
  obtain ⟨v, a, p, vs, rfl, h1, h2, h3, z, h4⟩ := E.slot i _ (gx_some h)
  exact ⟨p, vs, a, h3, z, h4⟩
def onL (ρ : En) (i : Nat) (k : List PyData → Prop) : Prop := match gx ρ i with
  | some (.l xs) => k xs
  | _ => False
theorem onL_of {ρ : En} {i : Nat} {k : List PyData → Prop} (h : onL ρ i k) : ∃ xs, gx ρ i = some (.l xs) ∧ k xs := by
  unfold onL at h
  split at h
  · exact ⟨_, by assumption, h⟩
  · exact h.elim
/-- xs.append(e) -/
def sApp (i : Nat) (te : TEd) : TSd := fun D ρ => onL ρ i fun xs => te ρ fun w => onFw w fun y => xs.length < sizeLine ∧ D.nx (ρ.set i (some (.l (xs ++ [y]))))
theorem snd_app {i : Nat} {ue : TE} (s1 : Snd K Z ue te) : SndS K Z (tDrop (tBM K "list" rAppend (tVar i) (tCons ue tNil))) (sApp i te) := by
  intro G0 H0 G H σ ρ D' D E gd h n r b c
  obtain ⟨xs, e1, h⟩ := onL_of h
  obtain ⟨p, vs, hp, hv, z, a⟩ := own_at E e1
  refine ⟨.ref p, hp, .inl ⟨rfl, vs, SqL.of hv⟩, ?_⟩
  refine s1 G0 H0 G H σ ρ _ _ E gd h fun v w G1 H1 u1 r1 q1 => ?_
  obtain ⟨y, ey, q1⟩ := onFw_of q1
  obtain ⟨zl, q⟩ := q1
  have uf := frzAll_up u1
  have E1 := E.to uf
  exact ⟨p, vs, v, rfl, rfl, u1.h _ _ hv, by rw [a.len]; exact zl, n _ _ _ _ (E1.mut (gx_some e1) hp (by rw [List.length_append]; simp; omega) ((a.up uf.g).append (.one (r1.frz u1.gh ey)))) q⟩
end
end DL

/-! DL5: loops, promises by data, calls; texts by their methods; own lists changed; the draws. -/
namespace DL
open PySem PySem.Spec PyProof.Rows L2

/-! ### another stable heap at the entry -/
section
variable {K : PySem.W.Frag} {Z : Wish} {G0 H0 G1 G H : Hp} {σ : L2.St} {ρ : En}
theorem Up.base {G' H' : Hp} (u : Up G0 H0 G1 H) (u' : Up G1 H0 G' H') : Up G0 H0 G' H' := ⟨u.g.trans u'.g, u'.h, u'.gh, fun a h g => u'.sep a h (u.sep a h g)⟩
theorem DEnv.rebase (E : DEnv K G0 H0 G H σ ρ) : DEnv K G H0 G H σ ρ := ⟨⟨Ex.refl _, E.up.h, E.up.gh, fun _ _ g => g⟩, E.slot, E.own, E.len⟩
theorem DEnv.back {G' H' : Hp} {σ' : L2.St} {ρ' : En} (u : Up G0 H0 G1 H) (E : DEnv K G1 H0 G' H' σ' ρ') : DEnv K G0 H0 G' H' σ' ρ' := ⟨u.base E.up, E.slot, E.own, E.len⟩
theorem Good.base (g : Good K Z G0 H0) (u : Up G0 H0 G1 H) : Good K Z G1 H0 := fun cls d G' H' fs u' x q => g cls d G' H' fs (u.base u') x q
end

/-! ### loops -/
def sFor (src : TId) (g : TGd) (body : TSd) : TSd := fun D ρ => src ρ fun ds => ∃ I : Nat → En → Prop, I 0 ρ ∧
  (∀ i x ρ', ds[i]? = some x → I i ρ' → g x ρ' fun ρ2 => body { D with nx := I (i + 1), ct := I (i + 1), bk := D.nx } ρ2) ∧ ∀ ρ', I ds.length ρ' → D.nx ρ'
def sWhile (c : TTd) (body : TSd) : TSd := fun D ρ => ∃ I : Nat → En → Prop, (∃ m, I m ρ) ∧ ∀ m ρ', I m ρ' → c ρ' fun b => if b = true then
  ∃ N : En → Prop, (∀ ρ2, N ρ2 → ∃ m', m' < m ∧ I m' ρ2) ∧ body { D with nx := N, ct := N, bk := D.nx } ρ' else D.nx ρ'
section
variable {X : Cx} {Z : Wish} {pos : Pos} {K : PySem.W.Frag}
theorem ds_for {tg iter : Expr} {body : List Stmt} {src : TId} {us : List Nat} {g : TGd} {t : TSd} (hc : X.calm = true) (hi : PDI false X Z tg iter src) (hg : PDG X us tg g) (hb : PDSs X Z body t)
    (hp : PassesOwn (model X.prog X.w) X.A X.env X.xe := by exact PassesOwn.never) (hs : ∀ x, foldedSetIterable iter X.env x = pure x := by intro _; rfl) : PDS X Z (.For tg iter body [] pos) (sFor src g t) := by
  obtain ⟨wi, pi, si⟩ := hi
  obtain ⟨gg, pg, sg⟩ := hg
  obtain ⟨tb, pb, sb⟩ := hb
  refine ⟨_, ps_for hp hc pi pg pb hs, fun G0 H0 G H σ ρ D' D E gd h n r b c => ?_⟩
  refine si G0 H0 G H σ ρ _ _ E gd h fun J G1 H1 ds u1 itok zl q => ?_
  obtain ⟨I, i0, istep, iend⟩ := q
  have itok' : ItOk X.K G1 H0 J ds := itok
  have E1 := E.to u1
  have gd1 := gd.base E1.up
  refine ⟨fun i m σ' H' => m = ds.length - i ∧ i ≤ ds.length ∧ ∃ G' ρ', DEnv X.K G1 H0 G' H' σ' ρ' ∧ I i ρ', ⟨ds.length, by simp, Nat.zero_le _, G1, ρ, E1.rebase, i0⟩, ?_⟩
  rintro i m σ' H' ⟨rfl, hi, G', ρ', E', hI⟩
  obtain ⟨t1, t2⟩ := itok' G' H' E'.up.g E'.up.gh E'.up.h i
  by_cases hlt : i < ds.length
  · obtain ⟨hgo, hy⟩ := t1 ds[i] (List.getElem?_eq_getElem hlt)
    refine .inr ⟨hgo, fun σ2 H2 => ∃ G' ρ', DEnv X.K G1 H0 G' H2 σ2 ρ' ∧ I (i + 1) ρ', fun σ2 H2 hN => ⟨ds.length - (i + 1), by omega, rfl, hlt, hN⟩, fun x H3 y => ?_⟩
    obtain ⟨G3, u3, ix⟩ := hy x H3 y
    refine sg G1 H0 G3 H3 σ' ρ' ds[i] x _ _ (E'.to u3) ix (istep i _ ρ' (List.getElem?_eq_getElem hlt) hI) fun σ2 ρ2 E2 _ _ q2 => ?_
    refine sb G1 H0 G3 H3 σ2 ρ2 _ _ E2 gd1 q2 (fun σ4 G4 H4 ρ4 E4 q4 => ⟨G4, ρ4, E4, q4⟩) (fun v w G4 H4 u4 r4 q4 => r v w G4 H4 (E1.up.base u4) r4 q4) (fun σ4 G4 H4 ρ4 E4 q4 => n σ4 G4 H4 ρ4 (E4.back E1.up) q4) (fun σ4 G4 H4 ρ4 E4 q4 => ⟨G4, ρ4, E4, q4⟩)
  · have e : i = ds.length := by omega
    subst e
    exact .inl ⟨t2 (Nat.le_refl _), n σ' G' H' ρ' (E'.back E1.up) (iend ρ' hI)⟩
theorem ds_while {ce : Expr} {body : List Stmt} {c : TTd} {t : TSd} (hc : PDT X Z ce c) (hb : PDSs X Z body t) (hp : PassesOwn (model X.prog X.w) X.A X.env X.xe := by exact PassesOwn.never) : PDS X Z (.While ce body [] pos) (sWhile c t) := by
  obtain ⟨tc, pc, sc⟩ := hc
  obtain ⟨tb, pb, sb⟩ := hb
  refine ⟨_, ps_while hp pc pb, fun G0 H0 G H σ ρ D' D E gd h n r b ct => ?_⟩
  obtain ⟨I, ⟨m0, i0⟩, turn⟩ := h
  refine ⟨fun m σ' H' => ∃ G' ρ', DEnv X.K G0 H0 G' H' σ' ρ' ∧ I m ρ', ⟨m0, G, ρ, E, i0⟩, ?_⟩
  rintro m σ' H' ⟨G', ρ', E', hI⟩
  refine sc G0 H0 G' H' σ' ρ' _ _ E' gd (turn m ρ' hI) fun d G1 H1 u1 q1 => ?_
  cases d with
  | true =>
    replace q1 := (show (if true = true then _ else _) from q1)
    rw [if_pos rfl] at q1
    obtain ⟨N, hN, q⟩ := q1
    refine iteT ?_
    refine ⟨fun σ2 H2 => ∃ G2 ρ2, DEnv X.K G0 H0 G2 H2 σ2 ρ2 ∧ N ρ2, fun σ2 H2 ⟨G2, ρ2, E2, n2⟩ => ?_, sb G0 H0 G1 H1 σ' ρ' _ _ (E'.to u1) gd q (fun σ4 G4 H4 ρ4 E4 q4 => ⟨G4, ρ4, E4, q4⟩) r n (fun σ4 G4 H4 ρ4 E4 q4 => ⟨G4, ρ4, E4, q4⟩)⟩
    obtain ⟨m', hm, i'⟩ := hN ρ2 n2
    exact ⟨m', hm, G2, ρ2, E2, i'⟩
  | false =>
    replace q1 := (show (if false = true then _ else _) from q1)
    rw [if_neg Bool.false_ne_true] at q1
    exact iteF (n σ' G1 H1 ρ' (E'.to u1) q1)
end

/-! ### promises by data -/
abbrev Spd := List W → (W → Prop) → XEd → Prop
/-- an argument -/
def AR (K : PySem.W.Frag) (G H : Hp) (v : V) : W → Prop
  | .d x => Is K G v x
  | .b xs => ∃ p vs, v = .ref p ∧ SqL K H p vs ∧ xs.length ≤ sizeLine ∧ IsAll K G vs xs
  | .drw => ∃ p, v = .ref p ∧ G p = some (drwO p)
  | _ => False
inductive ARs (K : PySem.W.Frag) (G H : Hp) : List V → List W → Prop
  | nil : ARs K G H [] []
  | cons {v : V} {w : W} {vs : List V} {ws : List W} : AR K G H v w → ARs K G H vs ws → ARs K G H (v :: vs) (w :: ws)
def toSp (K : PySem.W.Frag) (spd : Spd) : Sp := fun vs H Q E => ∃ G ws Q' E', Ex G H ∧ ARs K G H vs ws ∧ spd ws Q' E' ∧ (∀ v w G' H', Up G H G' H' → RR K H H G' H' v w → Q' w → Q v H') ∧ Good K ⟨E, E'⟩ G H
def argW : W → W
  | .l xs => .b xs
  | .r xs => .b xs
  | .d (.list xs) => .b xs
  | w => w
/-- what a call may hand back -/
def onRes (w : W) (k : W → Prop) : Prop := match w with
  | .d x => k (.d x)
  | .l x => k (.l x)
  | .drw => k .drw
  | _ => False
theorem RR.arg {K : PySem.W.Frag} {G0 H0 Hs G H : Hp} {σ : L2.St} {ρ : En} {v : V} {w : W} (r : RR K H0 Hs G H v w) (E : DEnv K G0 H0 G H σ ρ) : AR K G H v (argW w) := by
  cases w with
  | d y =>
    cases y with
    | list xs => cases r with | lst hs z ha => exact ⟨_, _, rfl, SqL.of (E.gh _ _ hs), z, ha⟩
    | _ => exact r
  | l xs => exact r.asL E rfl
  | b xs => exact r.asL E rfl
  | r xs => exact r.asL E rfl
  | drw => exact r
theorem RRs.args {K : PySem.W.Frag} {G0 H0 Hs G H : Hp} {σ : L2.St} {ρ : En} (E : DEnv K G0 H0 G H σ ρ) : ∀ {vs : List V} {ws : List W}, RRs K H0 Hs G H vs ws → ARs K G H vs (ws.map argW)
  | _, _, .nil => .nil
  | _, _, .cons a b => .cons (a.arg E) (RRs.args E b)
def dCall (spd : Spd) (ZD : XEd) (u : TAd) : TEd := fun ρ Q => u ρ fun ws => spd (ws.map argW) (fun w => onRes w Q) ZD
section
variable {X : Cx} {Z : Wish} {pos : Pos} {K : PySem.W.Frag}
theorem snd_call {spd : Spd} {ts : TA} {u : TAd} {ZE : XK} {ZD : XEd} (s : SndA K ⟨ZE, ZD⟩ ts u) : Snd K ⟨ZE, ZD⟩ (tCall (toSp K spd) [] ZE ts) (dCall spd ZD u) := by
  intro G0 H0 G H σ ρ Q' Q E gd hh k
  refine s G0 H0 G H σ ρ _ _ E gd hh fun vs ws G1 H1 u1 r1 q1 => ?_
  have E1 := E.to u1
  rw [List.append_nil]
  refine ⟨G1, ws.map argW, _, ZD, u1.gh, r1.args E1, q1, fun v w G2 H2 u2 r2 q2 => ?_, fun cls d G' H' fs u' x q => gd cls d G' H' fs (E1.up.trans u') x q⟩
  cases w with
  | d x => exact k v (.d x) G2 H2 (u1.trans u2) r2 q2
  | l x =>
    obtain ⟨p, us, e, h1, h2⟩ := r2
    exact k v (.l x) G2 H2 (u1.trans u2) ⟨p, us, e, u1.h.back h1, h2⟩ q2
  | drw => exact k v .drw G2 H2 (u1.trans u2) r2 q2
  | b x => exact q2.elim
  | r x => exact q2.elim
/-- f(e, ..) -/
theorem d_call {ZE : XK} {ZD : XEd} {CX : CXT} {k : Nat} {f : Addr} {fd : FuncData} {ps : List Str} {spd : Spd} {x : Str} {p : Pos} {e : Expr} {es : List Expr} {u : TAd} (F : FnOk X.prog X.w X.K X.mg X.base CX k f fd ps (toSp X.K spd)) (hr : Room k X.A) (hm : X.mg x = some (.ref f)) (hk : PySem.W.keepIn X.K (.ref f) = true) (hb : Binds X.K fd ps [])
    (hx : Passes CX X ZE) (ha : PDA X ⟨ZE, ZD⟩ (e :: es) u) (hg : Gl X x := by rfl) (hdb : (x == ("__debug__" : Str)) = false := by decide) (he : starEach (e :: es) X.env = (false, eval e X.env) :: starEach es X.env := by rfl) (hpl : (backTo pos (starEach es X.env)).any (·.1) = false := by rfl) :
    PD X ⟨ZE, ZD⟩ (.Call (.Name x p) (e :: es) [] pos) (dCall spd ZD u) := by
  obtain ⟨ts, pa, sa⟩ := ha
  exact ⟨_, pe_call F hr hg hm hk hb .nil hx pa hdb he hpl, snd_call sa⟩
end
def startD (N : List Str) (ws : List W) : En := ws.map some ++ List.replicate (N.length - ws.length) none
theorem ARs.len {K : PySem.W.Frag} {G H : Hp} : ∀ {vs : List V} {ws : List W}, ARs K G H vs ws → vs.length = ws.length
  | _, _, .nil => rfl
  | _, _, .cons _ b => by simp [ARs.len b]
theorem ARs.get {K : PySem.W.Frag} {G H : Hp} : ∀ {vs : List V} {ws : List W} {i : Nat} {w : W}, ARs K G H vs ws → ws[i]? = some w → ∃ v, vs[i]? = some v ∧ AR K G H v w
  | _, _, _, _, .nil, e => by simp at e
  | _, _, 0, _, .cons a b, e => by
    simp at e; subst e; exact ⟨_, rfl, a⟩
  | _, _, i + 1, w, .cons a b, e => by
    obtain ⟨v, h1, h2⟩ := ARs.get (i := i) b (by simpa using e)
    exact ⟨v, by simpa using h1, h2⟩
theorem startD_some {N : List Str} {ws : List W} {i : Nat} {w : W} (h : (startD N ws)[i]? = some (some w)) : ws[i]? = some w := by
  unfold startD at h
  by_cases hi : i < ws.length
  · rw [List.getElem?_append_left (by simpa using hi), List.getElem?_map] at h
    cases e : ws[i]? with
    | none => rw [e] at h; cases h
    | some a => rw [e] at h; cases h; rfl
  · rw [List.getElem?_append_right (by simpa using hi), List.getElem?_replicate] at h
    split at h <;> cases h
theorem env_start {K : PySem.W.Frag} {G H : Hp} {N : List Str} {vs : List V} {ws : List W} (gh : Ex G H) (a : ARs K G H vs ws) : DEnv K G H G H (L2.start N vs) (startD N ws) := by
  refine ⟨Up.refl gh, fun i w h => ?_, fun i j xs ys v hij hi hj hv => ?_, ?_⟩
  · obtain ⟨v, hv, r⟩ := a.get (startD_some h)
    refine ⟨v, ?_, ?_⟩
    · unfold L2.start
      have hl := (List.getElem?_eq_some_iff.mp hv).1
      rw [List.getElem?_append_left (by simpa using hl), List.getElem?_map, hv]; rfl
    · cases w with
      | l xs => exact r.elim
      | r xs => exact r.elim
      | _ => exact r
  · obtain ⟨v, hv, r⟩ := a.get (startD_some hi)
    exact r.elim
  · unfold L2.start startD
    rw [List.length_append, List.length_append, List.length_map, List.length_map, List.length_replicate, List.length_replicate, a.len]
/-- THE RULE for a def that raises nothing: its body as a term of data rules, and the reading of that term -/
theorem okD {P : Program} {w : World} {K : PySem.W.Frag} {mg : Str → Option Value} {base : Heap} {x qual : Str} {st : Stmt} {f : Addr} {fd : FuncData} {N ps : List Str} {k : Nat} {spd : Spd} {t : XEd → TSd} (F : Fun K x qual st f fd) (S : FnScope N ps (defScope st)) (len : ∀ ws Q E, spd ws Q E → ws.length = ps.length)
    (hbody : ∀ (cdv : Value) (A : Around) (outer : List Env) (s : Shared) (H : Hp) (E : XK) (D : XEd), Room k (A.deeper (envOfC qual (defScope st) s.heap.objs.size f cdv)) → PDSs (cxOf CX0 P w K mg base N qual (defScope st) f cdv A outer s H E).nox ⟨E, D⟩ (defBody st) (t D))
    (hread : ∀ ws Q E, spd ws Q E → t E { nx := fun _ => Q (.d .none), rt := Q } (startD N ws)) : FnOk P w K mg base CX0 (k + 1) f fd ps (toSp K spd) := by
  refine F.ok S (fun vs H Q E h => ?_) (fun cdv A outer s H vs Q E hr h => ?_)
  · obtain ⟨G, ws, Q', E', gh, a, h, _⟩ := h
    rw [a.len]; exact len ws Q' E' h
  · obtain ⟨G, ws, Q', E', gh, a, h, kq, ke⟩ := h
    obtain ⟨ts, p, s1⟩ := hbody cdv A outer s H E E' hr
    refine ⟨ts, p, s1 G H G H _ _ _ _ (env_start gh a) ke (hread ws Q' E' h) (fun σ' G' H' ρ' E1 q => ?_) (fun v w G' H' u r q => kq v w G' H' u r q) (fun _ _ _ _ _ q => q.elim) (fun _ _ _ _ _ q => q.elim)⟩
    exact kq .non (.d .none) G' H' E1.up .non q

/-! ### texts by their methods, operators -/
section
variable {X : Cx} {Z : Wish} {pos : Pos} {K : PySem.W.Frag} {a b : Expr} {ta tb : TEd}
def gJoin (x y : W) (Q : W → Prop) : Prop := match x with
  | .d (.str z) => ∃ (xs : List PyData) (ys : List Str), asQ y = some xs ∧ xs = ys.map PyData.str ∧ (ys.map (·.length)).sum + ys.length * z.length ≤ 16777216 ∧ Q (.d (.str (Txt.join z ys)))
  | _ => False
def dJoin (ta tb : TEd) : TEd := fun ρ Q => ta ρ fun x => (match x with | .d (.str _) => True | _ => False) ∧ tb ρ fun y => gJoin x y Q
theorem join_ok {z : Str} : ∀ {ys : List Str}, okS z → (∀ y ∈ ys, PyData.strOk y = true) → PyData.strOk (Str.join z ys) = true
  | [], _, _ => by simp [Str.join, Str.empty, PyData.strOk]
  | [y], _, h => h y (by simp)
  | y :: y2 :: r, hz, h => by
    have ih := join_ok (ys := y2 :: r) hz fun u hu => h u (List.mem_cons_of_mem _ hu)
    have h1 := h y (by simp)
    have h2 := hz.2
    show PyData.strOk (y ++ z ++ Str.join z (y2 :: r)) = true
    unfold PyData.strOk at *
    show ((y.cps ++ z.cps) ++ (Str.join z (y2 :: r)).cps).all _ = true
    rw [Array.all_append, Array.all_append, h1, h2, ih]; rfl
theorem join_len {z : Str} : ∀ {ys : List Str}, (Str.join z ys).length ≤ (ys.map (·.length)).sum + ys.length * z.length
  | [] => by simp [Str.join, Str.empty, Str.length]
  | [y] => by
    show y.length ≤ (y.length + 0) + 1 * z.length
    omega
  | y :: y2 :: r => by
    have ih := join_len (z := z) (ys := y2 :: r)
    show (y ++ z ++ Str.join z (y2 :: r)).length ≤ _
    rw [str_len, str_len]
    rw [List.map_cons, List.sum_cons, List.length_cons, Nat.succ_mul]
    omega
theorem IsAll.strOk {G : Hp} : ∀ {ys : List Str} {vs : List V}, IsAll K G vs (ys.map .str) → ∀ y ∈ ys, okS y
  | [], _, _, _, h => by cases h
  | y :: ys, _, a, u, h => by
    cases a with | cons h1 h2 =>
    rcases List.mem_cons.mp h with e | e
    · subst e; cases h1 with | str _ ok => exact ok
    · exact IsAll.strOk h2 u e
theorem d_join {apos : Pos} (ha : PD X Z a ta) (hb : PD X Z b tb) (hs : starEach [b] X.env = [(false, eval b X.env)] := by rfl) (hbase : attributeBase a "join" X.env (eval a X.env) = eval a X.env := by rfl) (hline : (apos.endLine == pos.line) = true := by rfl) :
    PD X Z (.Call (.Attribute a "join" apos) [b] [] pos) (dJoin ta tb) := by
  obtain ⟨ua, pa, sa⟩ := ha
  obtain ⟨ub, pb, sb⟩ := hb
  refine ⟨_, pe_join pa pb hs hbase hline, fun G0 H0 G H σ ρ Q' Q E gd hh k => ?_⟩
  refine sa G0 H0 G H σ ρ _ _ E gd hh fun v w G1 H1 u1 r1 q1 => ?_
  obtain ⟨hw, q1⟩ := q1
  cases w with
  | d y =>
    cases y with
    | str z =>
      cases r1 with | str _ okz =>
      refine ⟨⟨z, rfl⟩, ?_⟩
      have E1 := E.to u1
      refine sb G0 H0 G1 H1 σ ρ _ _ E1 gd q1 fun v2 w2 G2 H2 u2 r2 q2 => ?_
      obtain ⟨xs, ys, e1, rfl, hz, q⟩ := q2
      have E2 := E1.to u2
      obtain ⟨p, us, rfl, h1, zl, al⟩ := r2.asQ E2 e1
      have oks := al.strOk
      rw [al.strs] at h1
      refine ⟨z, p, ys, rfl, rfl, h1, hz, k _ (.d (.str (Txt.join z ys))) G2 H2 (u1.trans u2) (.str _ ⟨?_, ?_⟩) q⟩
      · rw [TL.join_eq, sizeLine_eq]
        exact Nat.le_trans join_len hz
      · rw [TL.join_eq]
        exact join_ok okz fun y hy => (oks y hy).2
    | _ => exact hw.elim
  | _ => exact hw.elim
/-- text * int -/
def rMulS : R2 := fun x y H Q => ∃ i n, x = .str i ∧ y = .int n ∧ 0 ≤ n ∧ n ≤ 100000 ∧ i.length ≤ 100 ∧ Q (.str (Txt.mul i n)) H
theorem mulOk_small {i : Str} {n : Int} (h0 : 0 ≤ n) (h1 : n ≤ 100000) (h2 : i.length ≤ 100) : MulOk i n := by
  refine ⟨by simp; omega, fun hn _ => ?_, fun hn _ => ?_⟩
  · have : (100 : Int) ≤ (2 ^ 63 - 1) / n := by
      rw [Int.le_ediv_iff_mul_le (by omega)]
      omega
    omega
  · have h3 : i.length * n.toNat ≤ 10000000 := by
      have : n.toNat ≤ 100000 := by omega
      calc i.length * n.toNat ≤ 100 * 100000 := Nat.mul_le_mul h2 this
        _ = 10000000 := by decide
    have h4 : (16777216 : Nat) = sizeLine := sizeLine_eq.symm
    unfold Builtin.Str.tooLong
    rw [decide_eq_false_iff_not]
    have : (sizeLine : Nat) = 16777216 := sizeLine_eq
    omega
theorem op_mulS : OpR X (binaryOp .Mult) rMulS := by
  intro pins s σ H x y v u Q I rx ry h
  obtain ⟨i, n, rfl, rfl, h0, h1, h2, q⟩ := h
  obtain ⟨t, rfl⟩ := rx
  obtain ⟨t', rfl⟩ := ry
  exact SB.mul (mulOk_small h0 h1 h2) fun t2 k => ⟨.str _, H, I.tok k, ⟨t2, rfl⟩, q⟩
end
end DL

/-! DL6: own lists changed, more operators, the draws opened and closed. -/
namespace DL
open PySem PySem.Spec PyProof.Rows L2
section
variable {X : Cx} {Z : Wish} {pos : Pos} {K : PySem.W.Frag} {a b e : Expr} {ta tb te : TEd}
def rMulA : R2 := fun x y H Q => rI CMul (fun i j => .int (i * j)) x y H Q ∨ rMulS x y H Q
theorem op_mulA : OpR X (binaryOp .Mult) rMulA := op_mul.or op_mulS
/-- a * b: ints, a short text by a small int -/
def gMul : W → W → (W → Prop) → Prop
  | .d (.int i), .d (.int j), Q => CMul i j ∧ Q (.d (.int (i * j)))
  | .d (.str i), .d (.int n), Q => 0 ≤ n ∧ n ≤ 100000 ∧ i.length ≤ 100 ∧ Q (.d (.str (Txt.mul i n)))
  | _, _, _ => False
theorem mul_cps (i : Str) : ∀ (m : Nat) (acc : Array Nat), ((List.replicate m i.cps).foldl (· ++ ·) acc).size = acc.size + m * i.length
  | 0, acc => by simp
  | m + 1, acc => by
    rw [List.replicate_succ, List.foldl_cons, mul_cps i m, Array.size_append, Nat.succ_mul]
    show acc.size + i.cps.size + m * i.length = acc.size + (m * i.length + i.cps.size)
    omega
theorem mul_okc (i : Str) (h : PyData.strOk i = true) : ∀ (m : Nat) (acc : Array Nat), acc.all (· < 0x110000) = true → ((List.replicate m i.cps).foldl (· ++ ·) acc).all (· < 0x110000) = true
  | 0, acc, ha => by simpa using ha
  | m + 1, acc, ha => by
    rw [List.replicate_succ, List.foldl_cons]
    refine mul_okc i h m _ ?_
    rw [Array.all_append, ha]
    exact h
theorem okS_mul {i : Str} {n : Int} (hi : okS i) (h0 : 0 ≤ n) (h1 : n ≤ 100000) (h2 : i.length ≤ 100) : okS (Txt.mul i n) := by
  unfold Txt.mul
  split
  · exact ⟨by rw [sizeLine_eq]; decide, by simp [Str.empty, PyData.strOk]⟩
  · split
    · exact hi
    · refine ⟨?_, ?_⟩
      · show ((List.replicate n.toNat i.cps).foldl (· ++ ·) #[]).size ≤ _
        rw [mul_cps, sizeLine_eq]
        have h3 : n.toNat * i.length ≤ 100000 * 100 := Nat.mul_le_mul (by omega) h2
        show 0 + n.toNat * i.length ≤ 16777216
        omega
      · exact mul_okc i hi.2 n.toNat #[] (by simp)
theorem od_mulA : OpD K rMulA gMul := by
  intro G0 H0 Hx Hy G H σ ρ x y wx wy Q' Q E rx ry q k
  unfold gMul at q
  split at q
  · cases rx; cases ry
    exact .inl ⟨_, _, rfl, rfl, q.1, k _ (.d (.int _)) G H (Up.refl E.gh) (.int _) q.2⟩
  · cases rx with | str _ ok =>
    cases ry
    obtain ⟨h0, h1, h2, q⟩ := q
    exact .inr ⟨_, _, rfl, rfl, h0, h1, h2, k _ (.d (.str _)) G H (Up.refl E.gh) (.str _ (okS_mul ok h0 h1 h2)) q⟩
  · exact q.elim

/-! ### own lists changed -/
/-- a method that changes an own list and hands back None -/
theorem snd_mut0 {i : Nat} {r : V → List V → Hp → VK → Prop} {f : List PyData → List PyData} {fV : List V → List V} (hr : ∀ p vs H Q, H p = some (.lst vs) → Q .non (upd H p (.lst (fV vs))) → r (.ref p) [] H Q)
    (hf : ∀ G vs xs, IsAll K G vs xs → IsAll K G (fV vs) (f xs)) (hl : ∀ xs, (f xs).length ≤ xs.length) : SndS K Z (tDrop (tBM0 K "list" r (tVar i))) (fun D ρ => onL ρ i fun xs => D.nx (ρ.set i (some (.l (f xs))))) := by
  intro G0 H0 G H σ ρ D' D E gd h n r0 b c
  obtain ⟨xs, e1, h⟩ := onL_of h
  obtain ⟨p, vs, hp, hv, z, al⟩ := own_at E e1
  exact ⟨.ref p, hp, .inl ⟨rfl, vs, SqL.of hv⟩, hr p vs H _ hv (n _ _ _ _ (E.mut (gx_some e1) hp (Nat.le_trans (hl xs) z) (hf G vs xs al)) h)⟩
/-- xs.reverse() -/
def sRev (i : Nat) : TSd := fun D ρ => onL ρ i fun xs => D.nx (ρ.set i (some (.l xs.reverse)))
theorem snd_rev {i : Nat} : SndS K Z (tDrop (tBM0 K "list" rReverse (tVar i))) (sRev i) :=
  snd_mut0 (f := List.reverse) (fV := List.reverse) (fun p vs H Q h q => ⟨p, vs, rfl, rfl, h, q⟩) (fun G vs xs al => al.rev) fun xs => Nat.le_of_eq (List.length_reverse)
/-- xs.insert(i, y) -/
def insD (xs : List PyData) (i : Int) (y : PyData) : List PyData := xs.take i.toNat ++ [y] ++ xs.drop i.toNat
def rInsert : V → List V → Hp → VK → Prop := fun x vs H Q => ∃ (l : Addr) (xs : List V) (i : Int) (y : V), x = .ref l ∧ vs = [.int i, y] ∧ H l = some (.lst xs) ∧ xs.length < sizeLine ∧ 0 ≤ i ∧ i < 2 ^ 63 ∧
    Q .non (upd H l (.lst (xs.take i.toNat ++ [y] ++ xs.drop i.toNat)))
theorem mt_ins : MtR X "list.insert" rInsert := mt_insert
def sIns (j : Nat) (u : TAd) : TSd := fun D ρ => onL ρ j fun xs => u ρ fun ws => match ws with
  | [.d (.int i), w] => onFw w fun y => xs.length < sizeLine ∧ 0 ≤ i ∧ i < 2 ^ 63 ∧ D.nx (ρ.set j (some (.l (insD xs i y))))
  | _ => False
theorem insD_len (xs : List PyData) (i : Int) (y : PyData) : (insD xs i y).length = xs.length + 1 := by
  unfold insD
  rw [List.length_append, List.length_append, List.length_take, List.length_drop]
  simp
  omega
theorem snd_ins {i : Nat} {us : TA} {u : TAd} (s1 : SndA K Z us u) : SndS K Z (tDrop (tBM K "list" rInsert (tVar i) us)) (sIns i u) := by
  intro G0 H0 G H σ ρ D' D E gd h n r b c
  obtain ⟨xs, e1, h⟩ := onL_of h
  obtain ⟨p, vs, hp, hv, z, al⟩ := own_at E e1
  refine ⟨.ref p, hp, .inl ⟨rfl, vs, SqL.of hv⟩, ?_⟩
  refine s1 G0 H0 G H σ ρ _ _ E gd h fun as ws G1 H1 u1 r1 q1 => ?_
  split at q1
  · obtain ⟨v1, v2, rfl, ra, rb⟩ := r1.two
    cases ra
    obtain ⟨y, ey, q1⟩ := onFw_of q1
    obtain ⟨zl, z0, z1, q⟩ := q1
    have uf := frzAll_up u1
    refine ⟨p, vs, _, v2, rfl, rfl, u1.h _ _ hv, by rw [al.len]; exact zl, z0, z1, n _ _ _ _ ((E.to uf).mut (gx_some e1) hp (by rw [insD_len]; omega) ?_) q⟩
    have al2 := al.up uf.g
    exact ((al2.take _).append (.one (rb.frz u1.gh ey))).append (al2.drop _)
  · exact q1.elim
/-- xs[i] = e -/
def sSetI (j : Nat) (te ti : TEd) : TSd := fun D ρ => onL ρ j fun xs => te ρ fun w => ti ρ fun u => onFw w fun y => onI u fun i => ∃ m, ixN xs.length i = some m ∧ D.nx (ρ.set j (some (.l (xs.set m y))))
theorem snd_seti {j : Nat} {ue ui : TE} {ti : TEd} (s1 : Snd K Z ue te) (s2 : Snd K Z ui ti) : SndS K Z (tAsg ue (L2.gSub (tVar j) ui rSetL)) (sSetI j te ti) := by
  intro G0 H0 G H σ ρ D' D E gd h n r b c
  obtain ⟨xs, e1, h⟩ := onL_of h
  obtain ⟨p, vs, hp, hv, z, al⟩ := own_at E e1
  refine s1 G0 H0 G H σ ρ _ _ E gd h fun v w G1 H1 u1 r1 q1 => ?_
  refine ⟨.ref p, hp, ?_⟩
  refine s2 G0 H0 G1 H1 σ ρ _ _ (E.to u1) gd q1 fun v2 w2 G2 H2 u2 r2 q2 => ?_
  obtain ⟨y, ey, q⟩ := onFw_of q2
  obtain ⟨i, rfl, q⟩ := onI_of r2 q
  obtain ⟨m, hm, q⟩ := q
  have u3 := u1.trans u2
  have uf := frzAll_up u3
  refine ⟨p, vs, i, m, rfl, rfl, u3.h _ _ hv, by rw [al.len]; exact hm, n _ _ _ _ ((E.to uf).mut (gx_some e1) hp (by rw [List.length_set]; exact z) ((al.up uf.g).set m ((r1.up u2).frz u3.gh ey))) q⟩
theorem ds_seti (j : Nat) {x : Str} {i : Expr} {ti : TEd} {pn p2 : Pos} (he : PD X Z e te) (hi : PD X Z i ti) (hN : X.N[j]? = some x := by rfl) (hv : Vis X.env.scope x := by first | exact Or.inl rfl | exact Or.inr (Or.inl rfl) | exact Or.inr (Or.inr rfl)) (hd : (x == ("__debug__" : Str)) = false := by decide)
    (hcd : (x == ("__classdict__" : Str)) = false := by decide) (ha : ∀ v, assign (.Subscript (.Name x pn) i p2) X.env v = (do
      let ov ← holding [v] (eval (.Name x pn) X.env)
      let iv ← holding [v, ov] (eval i X.env)
      standAt p2
      holding [v, ov, iv] (setItem ov iv v)
      release [v, ov, iv] []) := by intro _; rfl) (hs : swapsWithSole [.Subscript (.Name x pn) i p2] e pos.line X.env = pure false := by rfl) (hw : swappedStores [.Subscript (.Name x pn) i p2] e X.env = pure none := by rfl)
    (h1 : (assignEach [.Subscript (.Name x pn) i p2] X.env).map (·.2) = [assign (.Subscript (.Name x pn) i p2) X.env] := by rfl) : PDS X Z (.Assign [.Subscript (.Name x pn) i p2] e pos) (sSetI j te ti) := by
  obtain ⟨t1, p1, s1⟩ := he
  obtain ⟨t2, p22, s2⟩ := hi
  exact ⟨_, ps_asg p1 (pg_sub (pe_var hN hv hd hcd) p22 set_list ha) hs hw h1, snd_seti s1 s2⟩
section
variable {x : Str} {j : Nat} {pn apos cpos : Pos}
theorem ds_app (j : Nat) (he : PD X Z e te) (hN : X.N[j]? = some x := by rfl) (hv : Vis X.env.scope x := by first | exact Or.inl rfl | exact Or.inr (Or.inl rfl) | exact Or.inr (Or.inr rfl)) (hd : (x == ("__debug__" : Str)) = false := by decide) (hcd : (x == ("__classdict__" : Str)) = false := by decide)
    (hbase : attributeBase (.Name x pn) "append" X.env (eval (.Name x pn) X.env) = eval (.Name x pn) X.env := by rfl)
    (hfew : ((backTo cpos (starEach [e] X.env)).all (fun x => !x.1) && (backToKw cpos (keywordEach [] X.env)).all (fun x => x.1.isSome) && decide ([e].length + ([] : List Keyword).length + (if ([] : List Keyword).isEmpty then 0 else 1) < 30)) = true := by rfl)
    (hline : (apos.endLine == cpos.line) = true := by rfl) (hst : starEach [e] X.env = (false, eval e X.env) :: starEach [] X.env := by rfl) (hplain : (backTo cpos (starEach [] X.env)).any (·.1) = false := by rfl)
    (hs : swapsWith (.Call (.Attribute (.Name x pn) "append" apos) [e] [] cpos) none pos.line X.env = pure false := by rfl) :
    PDS X Z (.Expr (.Call (.Attribute (.Name x pn) "append" apos) [e] [] cpos) pos) (sApp j te) := by
  obtain ⟨t1, p0, s1⟩ := he
  have p1 := pa_cons p0 pa_nil hst
  exact ⟨_, ps_expr (pe_bm PySem.F.plainAttrs_list PySem.F.slot_list_append PySem.F.type_list_append mt_append (pe_var hN hv hd hcd) p1 hbase hfew hline hst hplain) hs, snd_app s1⟩
theorem ds_ins (j : Nat) {u : TAd} (hu : PDA X Z [a, b] u) (hN : X.N[j]? = some x := by rfl) (hv : Vis X.env.scope x := by first | exact Or.inl rfl | exact Or.inr (Or.inl rfl) | exact Or.inr (Or.inr rfl)) (hd : (x == ("__debug__" : Str)) = false := by decide) (hcd : (x == ("__classdict__" : Str)) = false := by decide)
    (hbase : attributeBase (.Name x pn) "insert" X.env (eval (.Name x pn) X.env) = eval (.Name x pn) X.env := by rfl)
    (hfew : ((backTo cpos (starEach [a, b] X.env)).all (fun x => !x.1) && (backToKw cpos (keywordEach [] X.env)).all (fun x => x.1.isSome) && decide ([a, b].length + ([] : List Keyword).length + (if ([] : List Keyword).isEmpty then 0 else 1) < 30)) = true := by rfl)
    (hline : (apos.endLine == cpos.line) = true := by rfl) (hst : starEach [a, b] X.env = (false, eval a X.env) :: starEach [b] X.env := by rfl) (hplain : (backTo cpos (starEach [b] X.env)).any (·.1) = false := by rfl)
    (hs : swapsWith (.Call (.Attribute (.Name x pn) "insert" apos) [a, b] [] cpos) none pos.line X.env = pure false := by rfl) :
    PDS X Z (.Expr (.Call (.Attribute (.Name x pn) "insert" apos) [a, b] [] cpos) pos) (sIns j u) := by
  obtain ⟨t1, p1, s1⟩ := hu
  exact ⟨_, ps_expr (pe_bm PySem.F.plainAttrs_list PySem.F.slot_list_insert PySem.F.type_list_insert mt_ins (pe_var hN hv hd hcd) p1 hbase hfew hline hst hplain) hs, snd_ins s1⟩
theorem ds_rev (j : Nat) (hN : X.N[j]? = some x := by rfl) (hv : Vis X.env.scope x := by first | exact Or.inl rfl | exact Or.inr (Or.inl rfl) | exact Or.inr (Or.inr rfl)) (hd : (x == ("__debug__" : Str)) = false := by decide) (hcd : (x == ("__classdict__" : Str)) = false := by decide) (hbase : attributeBase (.Name x pn) "reverse" X.env (eval (.Name x pn) X.env) = eval (.Name x pn) X.env := by rfl) (hline : (apos.endLine == cpos.line) = true := by rfl)
    (hs : swapsWith (.Call (.Attribute (.Name x pn) "reverse" apos) [] [] cpos) none pos.line X.env = pure false := by rfl) : PDS X Z (.Expr (.Call (.Attribute (.Name x pn) "reverse" apos) [] [] cpos) pos) (sRev j) :=
  ⟨_, ps_expr (pe_bm0 PySem.F.plainAttrs_list PySem.F.slot_list_reverse PySem.F.type_list_reverse mt_reverse (pe_var hN hv hd hcd) hbase hline) hs, snd_rev⟩
end
end

/-! ### the draws, opened and closed -/
section
variable {X : Cx} {st : List Stmt}
theorem inv_open {pins : List (Addr × Obj)} {σ : L2.St} {H : Hp} {s : Shared} {p : Addr} (I : Inv X pins σ H s) (h : H p = some (drwO p)) : ∃ ns, DrwOk ns ∧ Inv X pins σ (upd H p (.lst (ns.map V.int))) s := by
  obtain ⟨⟨ns, its, n, ok, rv, hg⟩, _, _⟩ := (show ObjOk X.prog X.w H s.heap p (drwO p) from I.hok p _ h)
  refine ⟨ns, ok, I.write (x := p) (e := p) (t' := s.toks) (by rw [h]; trivial) (.inl rfl) (fun b u _ q => q) ⟨_, hg⟩ ⟨?_, its, n, rv, hg⟩⟩
  rw [List.length_map, sizeLine_eq]
  have := ok.1
  omega
theorem inv_close {pins : List (Addr × Obj)} {σ : L2.St} {H : Hp} {s : Shared} {p : Addr} {ns : List Int} (I : Inv X pins σ H s) (ok : DrwOk ns) (h : H p = some (.lst (ns.map V.int))) : Inv X pins σ (upd H p (drwO p)) s := by
  obtain ⟨_, its, n, rv, hg⟩ := (show ObjOk X.prog X.w H s.heap p (.lst (ns.map V.int)) from I.hok p _ h)
  refine I.write (x := p) (e := p) (t' := s.toks) (by rw [h]; trivial) (.inl rfl) (fun b u _ q => q) ⟨_, hg⟩ ⟨⟨ns, its, n, ok, rv, hg⟩, ⟨_, hg⟩, fun h1 h2 ⟨ns1, its1, n1, ok1, rv1, hg1⟩ k => ⟨ns1, its1, n1, ok1, rv1, k _ hg1⟩⟩
/-- a body that reads and pops the draws at p -/
def tOpn (t : TS) : TS := fun D σ H => ∃ p, H p = some (drwO p) ∧ ∀ ns, DrwOk ns → t { nx := fun σ' H2 => ∃ ns', DrwOk ns' ∧ H2 p = some (.lst (ns'.map V.int)) ∧ D.nx σ' (upd H2 p (drwO p)), rt := fun v H2 => ∃ ns', DrwOk ns' ∧ H2 p = some (.lst (ns'.map V.int)) ∧ D.rt v (upd H2 p (drwO p)) } σ (upd H p (.lst (ns.map V.int)))
theorem pss_opn {t : TS} (h : PSs X st t) : PSs X st (tOpn t) := by
  refine ⟨fun pins s σ H D I hw => ?_⟩
  obtain ⟨p, hp, hw⟩ := hw
  obtain ⟨ns, ok, I1⟩ := inv_open I hp
  refine thn (h.run pins s σ _ _ I1 (hw ns ok)) fun f s1 q => ?_
  cases f with
  | next => obtain ⟨σ', H', I', ns', ok', e, q⟩ := q; exact ⟨σ', _, inv_close I' ok' e, q⟩
  | ret v => obtain ⟨x, σ', H', I', r, ns', ok', e, q⟩ := q; exact ⟨x, σ', _, inv_close I' ok' e, r, q⟩
  | brk => obtain ⟨σ', H', I', q⟩ := q; exact q.elim
  | cont => obtain ⟨σ', H', I', q⟩ := q; exact q.elim
/-- a body that hands out a list as the draws -/
def tCls (t : TS) : TS := fun D σ H => t { D with rt := fun v H2 => ∃ p ns, v = .ref p ∧ DrwOk ns ∧ H2 p = some (.lst (ns.map V.int)) ∧ D.rt v (upd H2 p (drwO p)) } σ H
theorem pss_cls {t : TS} (h : PSs X st t) : PSs X st (tCls t) := by
  refine ⟨fun pins s σ H D I hw => ?_⟩
  refine thn (h.run pins s σ _ _ I hw) fun f s1 q => ?_
  cases f with
  | next => exact q
  | ret v => obtain ⟨x, σ', H', I', r, p, ns, e, ok, hp, q⟩ := q; exact ⟨x, σ', _, inv_close I' ok hp, r, q⟩
  | brk => exact q
  | cont => exact q
def sDrw (t : TSd) : TSd := fun D ρ => t { D with rt := fun w => ∃ ns : List Int, w = .l (ns.map .int) ∧ DrwOk ns ∧ D.rt .drw } ρ
theorem dss_drw {Z : Wish} {t : TSd} (h : PDSs X Z st t) : PDSs X Z st (sDrw t) := by
  obtain ⟨ts, p, s⟩ := h
  refine ⟨_, pss_cls p, fun G0 H0 G H σ ρ D' D E gd h n r b c => ?_⟩
  refine s G0 H0 G H σ ρ { D' with rt := _ } { D with rt := _ } E gd h n (fun v w G' H' u rr q => ?_) b c
  obtain ⟨ns, rfl, ok, q⟩ := q
  obtain ⟨p2, vs, rfl, h1, h2, h3, z, al⟩ := rr
  rw [al.ints] at h3
  have g0 : G0 p2 = none := u.g.back h2
  refine ⟨p2, ns, rfl, ok, h3, r _ .drw (upd G' p2 (drwO p2)) _ ⟨u.g.mut g0, u.h.mut h1, fun a o e => ?_, fun a ha hg => ?_⟩ ⟨p2, rfl, upd_same⟩ q⟩
  · by_cases e1 : a = p2
    · subst e1; rw [upd_same] at e ⊢; exact e
    · rw [upd_ne e1] at e ⊢; exact u.gh a o e
  · rw [upd_ne (fun z => ha (by rw [z]; exact h1))]; exact u.sep a ha hg
end
end DL

/-! DL7: ends of a law. -/
namespace L2
theorem Room.u65 {k : Nat} {A : PySem.Around} (r : Room k A) : A.units + 65 < PySem.cLine := by have := r.un; omega
end L2
namespace DL
open PySem PySem.Spec PyProof.Rows L2
/-- the promise of a law: from a script to True -/
def spLawD : Spd := fun ws Q _ => match ws with
  | [.b xs] => ∃ ns : List Int, xs = ns.map .int ∧ ns.length ≤ 63 ∧ Q (.d (.bool true))
  | _ => False
theorem law_start {K : PySem.W.Frag} {H : Hp} {a : Addr} {ns : List Int} {Q : VK} {E : XK} (hl : ns.length ≤ 63) (hS : SqL K H a (ns.map V.int)) (q : ∀ H', Q (.bl true) H') : toSp K spLawD [.ref a] H Q E := by
  refine ⟨fun _ => none, [.b (ns.map .int)], fun w => w = .d (.bool true), fun _ _ => False, (fun _ _ h => nomatch h), .cons ⟨a, _, rfl, hS, ?_, IsAll.ofInts ns⟩ .nil, ⟨ns, rfl, hl, rfl⟩, fun v w G' H' u r e => ?_, fun _ _ _ _ _ _ _ h => h.elim⟩
  · rw [List.length_map, sizeLine_eq]; omega
  · subst e; cases r; exact q H'
/-- a word: the law's and the program's letters -/
def lettersS : Str := Str.ofString "abcdefghijklmnopqrstuvwxyz"
theorem if_iff {c : Prop} [Decidable c] {A B : Prop} (h1 : c → A) (h2 : ¬ c → B) : if c then A else B := by
  by_cases h : c
  · rw [if_pos h]; exact h1 h
  · rw [if_neg h]; exact h2 h
theorem ifd {c : Prop} [Decidable c] {A B : Prop} (h1 : c → A) (h2 : ¬ c → B) : if decide c = true then A else B := by
  by_cases h : c
  · rw [if_pos (decide_eq_true h)]; exact h1 h
  · rw [if_neg (fun z => h (of_decide_eq_true z))]; exact h2 h
theorem ifb {b : Bool} {A B : Prop} (h1 : b = true → A) (h2 : b = false → B) : if b = true then A else B := by
  cases b with
  | true => rw [if_pos rfl]; exact h1 rfl
  | false => rw [if_neg Bool.false_ne_true]; exact h2 rfl
end DL
namespace DL
open PySem PySem.Spec PyProof.Rows L2
theorem rngD_some {lo : Int} {n i : Nat} {x : PyData} (h : (rngD lo n)[i]? = some x) : i < n ∧ x = .int (lo + (i : Nat)) := by
  have hi : i < n := by
    have := (List.getElem?_eq_some_iff.mp h).1
    rw [rngD_len] at this; exact this
  rw [rngD_get hi] at h
  exact ⟨hi, (Option.some.inj h).symm⟩
theorem map_some {α : Type} {f : α → PyData} {xs : List α} {i : Nat} {x : PyData} (h : (xs.map f)[i]? = some x) : ∃ a, xs[i]? = some a ∧ x = f a := by
  rw [List.getElem?_map] at h
  cases e : xs[i]? with
  | none => rw [e] at h; cases h
  | some a => rw [e] at h; exact ⟨a, rfl, (Option.some.inj h).symm⟩
theorem atI_map {α : Type} {f : α → PyData} {xs : List α} {r : Int} (h0 : 0 ≤ r) (h1 : r < xs.length) : ∃ a, a ∈ xs ∧ xs[r.toNat]? = some a ∧ atI (xs.map f) r = some (f a) := by
  obtain ⟨n, rfl⟩ := Int.eq_ofNat_of_zero_le h0
  have hn : n < xs.length := by omega
  refine ⟨xs[n], List.getElem_mem hn, List.getElem?_eq_getElem hn, atI_nat ?_⟩
  rw [List.getElem?_map, List.getElem?_eq_getElem hn]; rfl
theorem ixN_nat {n : Nat} {r : Int} (h0 : 0 ≤ r) (h1 : r < n) : ixN n r = some r.toNat := by
  unfold ixN
  rw [if_pos h0, if_pos h1]
theorem take_succ_map {α : Type} {f : α → PyData} {xs : List α} {i : Nat} {a : α} (h : xs[i]? = some a) : (xs.take (i + 1)).map f = (xs.take i).map f ++ [f a] := by
  rw [List.take_add_one, h, List.map_append]; rfl
end DL

/-! DL8: words, data that is the same. -/
namespace DL
open PySem PySem.Spec PyProof.Rows L2
/-! ### words -/
def isLow (c : Nat) : Bool := decide (97 ≤ c) && decide (c ≤ 122)
def isW (x : Str) : Bool := !decide (x = Str.ofString "") && x.cps.toList.all isLow
theorem letters_cps : (Str.ofString "abcdefghijklmnopqrstuvwxyz").cps.toList = List.range' 97 26 := by decide +kernel
theorem in_letters (c : Nat) : subS ⟨#[c]⟩ (Str.ofString "abcdefghijklmnopqrstuvwxyz") = isLow c := by
  unfold subS
  have h := PySem.StrLaws.found_one (Str.ofString "abcdefghijklmnopqrstuvwxyz") c
  rw [show ((⟨#[c]⟩ : Str)) = ⟨#[c]⟩ from rfl] at h
  rw [h, letters_cps]
  unfold isLow
  rw [Bool.eq_iff_iff]
  simp only [decide_eq_true_eq, Bool.and_eq_true, List.mem_range'_1]
  omega
theorem isW_empty : isW (Str.ofString "") = false := by
  unfold isW
  rw [decide_eq_true rfl]; rfl
theorem isW_of {x : Str} (h : x ≠ Str.ofString "") : isW x = x.cps.toList.all isLow := by
  unfold isW
  rw [decide_eq_false h]; rfl
/-! ### the same -/
open Classical in
/-- equal, kinds and all -/
noncomputable def sameB (x y : PyData) : Bool := decide (x = y)
theorem sameB_self (x : PyData) : sameB x x = true := by simp [sameB]
theorem sameB_iff {x y : PyData} : sameB x y = true ↔ x = y := by simp [sameB]
theorem sameB_ne {x y : PyData} (h : x ≠ y) : sameB x y = false := by simp [sameB, h]
theorem depth_mem : ∀ {xs : List PyData} {x : PyData}, x ∈ xs → x.depth ≤ PyData.depthAll xs
  | [], _, h => by cases h
  | y :: ys, x, h => by
    simp only [PyData.depthAll]
    rcases List.mem_cons.mp h with e | e
    · subst e; omega
    · have := depth_mem e; omega
theorem depthAll_bools : ∀ bs : List Bool, PyData.depthAll (bs.map .bool) = 0
  | [] => by simp [PyData.depthAll]
  | b :: bs => by simp [PyData.depthAll, PyData.depth, depthAll_bools bs]
theorem depthAll_le {n : Nat} : ∀ {xs : List PyData}, (∀ x ∈ xs, x.depth ≤ n) → PyData.depthAll xs ≤ n
  | [], _ => by simp [PyData.depthAll]
  | y :: ys, h => by
    simp only [PyData.depthAll]
    have h1 := h y (by simp)
    have h2 := depthAll_le (xs := ys) fun x hx => h x (List.mem_cons_of_mem _ hx)
    omega
theorem notin_false (bs : List Bool) : (!inD (.bool false) (bs.map .bool)) = bs.all id := by
  induction bs with
  | nil => rfl
  | cons b bs ih =>
    unfold inD at ih ⊢
    rw [List.map_cons, List.any_cons, List.all_cons, Bool.not_or, ih]
    cases b <;> rfl
theorem sameB_list {xs ys : List PyData} (hl : xs.length = ys.length) : sameB (.list xs) (.list ys) = ((List.range ys.length).map fun i => sameB (xs.getD i .none) (ys.getD i .none)).all id := by
  rw [Bool.eq_iff_iff, sameB_iff]
  constructor
  · intro e; injection e with e; subst e
    rw [List.all_eq_true]
    intro b hb
    obtain ⟨i, _, rfl⟩ := List.mem_map.mp hb
    exact sameB_self _
  · intro h
    rw [List.all_eq_true] at h
    have : xs = ys := by
      apply List.ext_getElem hl
      intro i h1 h2
      have := h _ (List.mem_map.mpr ⟨i, List.mem_range.mpr h2, rfl⟩)
      have e : xs.getD i .none = ys.getD i .none := sameB_iff.mp this
      rw [List.getD_eq_getElem?_getD, List.getD_eq_getElem?_getD, List.getElem?_eq_getElem h1, List.getElem?_eq_getElem h2] at e
      exact e
    rw [this]
theorem sameB_tuple (xs ys : List PyData) : sameB (.tuple xs) (.tuple ys) = sameB (.list xs) (.list ys) := by
  rw [Bool.eq_iff_iff, sameB_iff, sameB_iff]
  constructor <;> (intro e; injection e with e; rw [e])
/-- an argument as data: as it stands behind a call's norm -/
def asA : W → Option PyData
  | .d (.list _) => none
  | .d (.dict _) => none
  | .d x => some x
  | .b xs => some (.list xs)
  | _ => none
theorem atI_ok {xs : List PyData} {i : Nat} (h : i < xs.length) : atI xs ((0 : Int) + (i : Nat)) = some (xs.getD i .none) := by
  rw [Int.zero_add]
  refine atI_nat ?_
  rw [List.getD_eq_getElem?_getD, List.getElem?_eq_getElem h]; rfl
theorem argW_asA {x : PyData} (h : ∀ k, x ≠ .dict k) : asA (argW (.d x)) = some x := by
  cases x <;> first | rfl | exact absurd rfl (h _)
/-- data without dicts -/
def noDict : PyData → Bool
  | .list xs => xs.attach.all fun ⟨x, _⟩ => noDict x
  | .tuple xs => xs.attach.all fun ⟨x, _⟩ => noDict x
  | .dict _ => false
  | _ => true
theorem noDict_mem {xs : List PyData} (h : noDict (.list xs) = true) {x : PyData} (hx : x ∈ xs) : noDict x = true := by
  unfold noDict at h
  rw [List.all_eq_true] at h
  exact h ⟨x, hx⟩ (List.mem_attach _ _)
theorem noDict_memT {xs : List PyData} (h : noDict (.tuple xs) = true) {x : PyData} (hx : x ∈ xs) : noDict x = true := by
  unfold noDict at h
  rw [List.all_eq_true] at h
  exact h ⟨x, hx⟩ (List.mem_attach _ _)
theorem noDict_ne {x : PyData} (h : noDict x = true) : ∀ k, x ≠ .dict k := by
  intro k e; subst e; simp [noDict] at h
theorem noDict_list {xs : List PyData} (h : ∀ x ∈ xs, noDict x = true) : noDict (.list xs) = true := by
  unfold noDict
  rw [List.all_eq_true]
  rintro ⟨x, hx⟩ _
  exact h x hx
theorem noDict_tuple {xs : List PyData} (h : ∀ x ∈ xs, noDict x = true) : noDict (.tuple xs) = true := by
  unfold noDict
  rw [List.all_eq_true]
  rintro ⟨x, hx⟩ _
  exact h x hx
end DL
namespace DL
open PySem PySem.Spec PyProof.Rows L2
theorem fnok_void {P : Program} {w : World} {K : PySem.W.Frag} {mg : Str → Option Value} {base : Heap} {k : Nat} {f : Addr} {fd : FuncData} {ps : List Str} {spd : Spd} (h : ∀ ws Q E, ¬ spd ws Q E) : FnOk P w K mg base CX0 k f fd ps (toSp K spd) where
  len := fun _ _ _ _ z => by obtain ⟨_, _, _, _, _, _, z, _⟩ := z; exact (h _ _ _ z).elim
  run := fun _ _ _ _ _ _ _ _ _ _ _ _ _ z => by obtain ⟨_, _, _, _, _, _, z, _⟩ := z; exact (h _ _ _ z).elim
theorem sameB_int {i j : Int} : sameB (.int i) (.int j) = decide (i = j) := by
  rw [Bool.eq_iff_iff, sameB_iff, decide_eq_true_eq]; exact ⟨fun e => by injection e, fun e => by rw [e]⟩
theorem sameB_str {i j : Str} : sameB (.str i) (.str j) = decide (i = j) := by
  rw [Bool.eq_iff_iff, sameB_iff, decide_eq_true_eq]; exact ⟨fun e => by injection e, fun e => by rw [e]⟩
theorem sameB_bool {i j : Bool} : sameB (.bool i) (.bool j) = decide (i = j) := by
  rw [Bool.eq_iff_iff, sameB_iff, decide_eq_true_eq]; exact ⟨fun e => by injection e, fun e => by rw [e]⟩
end DL
namespace DL
open PySem PySem.Spec PyProof.Rows L2
/-! ### making words -/
theorem str_ext {x y : Str} (h : x.cps.toList = y.cps.toList) : x = y := by
  cases x with | mk a => cases y with | mk b =>
  have : a = b := Array.toList_inj.mp h
  rw [this]
theorem isW_iff {x : Str} : isW x = true ↔ x.cps.toList ≠ [] ∧ ∀ c ∈ x.cps.toList, isLow c = true := by
  have e0 : (Str.ofString "").cps.toList = [] := by decide
  by_cases h : x = Str.ofString ""
  · subst h
    rw [isW_empty, e0]; simp
  · rw [isW_of h, List.all_eq_true]
    exact ⟨fun z => ⟨fun e => h (str_ext (e.trans e0.symm)), z⟩, fun z => z.2⟩
theorem isLow_ok {c : Nat} (h : isLow c = true) : c < 0x110000 := by
  unfold isLow at h
  rw [Bool.and_eq_true, decide_eq_true_eq, decide_eq_true_eq] at h
  omega
theorem len_cps (x : Str) : x.length = x.cps.toList.length := (Array.length_toList ..).symm
theorem isW_append {x y : Str} (h : isW x = true) (h' : ∀ c ∈ y.cps.toList, isLow c = true) : isW (x ++ y) = true := by
  rw [isW_iff] at h ⊢
  have e : (x ++ y).cps.toList = x.cps.toList ++ y.cps.toList := Array.toList_append ..
  rw [e]
  refine ⟨fun z => h.1 (List.append_eq_nil_iff.mp z).1, fun c hc => ?_⟩
  rcases List.mem_append.mp hc with z | z
  · exact h.2 c z
  · exact h' c z
theorem letter_at {r : Int} (h0 : 0 ≤ r) (h1 : r < 26) : ∃ c, atI (Str.ofString "abcdefghijklmnopqrstuvwxyz").cps.toList r = some c ∧ isLow c = true := by
  obtain ⟨n, rfl⟩ := Int.eq_ofNat_of_zero_le h0
  refine ⟨97 + n, ?_, ?_⟩
  · rw [letters_cps]
    refine atI_nat ?_
    rw [List.getElem?_range' (by omega)]; simp
  · unfold isLow
    rw [Bool.and_eq_true, decide_eq_true_eq, decide_eq_true_eq]
    omega
theorem join0_cps : ∀ (cs : List Nat), (Str.join (Str.ofString "") (cs.map fun c => (⟨#[c]⟩ : Str))).cps.toList = cs
  | [] => rfl
  | [c] => rfl
  | c :: d :: r => by
    have ih := join0_cps (d :: r)
    show (((⟨#[c]⟩ : Str) ++ Str.ofString "" ++ Str.join (Str.ofString "") ((d :: r).map fun c => (⟨#[c]⟩ : Str))).cps.toList) = _
    show ((#[c] ++ (Str.ofString "").cps) ++ (Str.join (Str.ofString "") ((d :: r).map fun c => (⟨#[c]⟩ : Str))).cps).toList = _
    rw [Array.toList_append, Array.toList_append, ih]; rfl
theorem join0 {cs : List Nat} (h : cs ≠ []) (hl : ∀ c ∈ cs, isLow c = true) : isW (Txt.join (Str.ofString "") (cs.map fun c => (⟨#[c]⟩ : Str))) = true ∧ (Txt.join (Str.ofString "") (cs.map fun c => (⟨#[c]⟩ : Str))).length = cs.length := by
  rw [TL.join_eq, isW_iff, len_cps, join0_cps]
  exact ⟨⟨h, hl⟩, rfl⟩
theorem sum_ones : ∀ (cs : List Nat), ((cs.map fun c => (⟨#[c]⟩ : Str)).map (·.length)).sum = cs.length
  | [] => rfl
  | c :: r => by
    rw [List.map_cons, List.map_cons, List.sum_cons, sum_ones r, List.length_cons]
    show 1 + _ = _
    omega
theorem z_cps (n : Int) : (Txt.mul (Str.ofString "z") n).cps.toList = List.replicate n.toNat 122 := by
  rw [show Str.ofString "z" = ⟨#[122]⟩ from by decide]
  exact PyProof.Rows.mul_one_list 122 n
theorem z_word {n : Int} (h : 1 ≤ n) : isW (Txt.mul (Str.ofString "z") n) = true ∧ (Txt.mul (Str.ofString "z") n).length = n.toNat := by
  rw [isW_iff, len_cps, z_cps]
  refine ⟨⟨fun e => ?_, fun c hc => ?_⟩, List.length_replicate ..⟩
  · have := congrArg List.length e
    rw [List.length_replicate] at this
    simp at this; omega
  · rw [(List.mem_replicate.mp hc).2]; decide
theorem eqv_str {x y : Str} : PyData.eqv (.str x) (.str y) = decide (x = y) := rfl
theorem inD_str {x : Str} : ∀ {ys : List Str}, inD (.str x) (ys.map .str) = decide (x ∈ ys)
  | [] => by rw [decide_eq_false (by intro h; cases h)]; rfl
  | y :: r => by
    have ih := inD_str (x := x) (ys := r)
    unfold inD at ih ⊢
    rw [List.map_cons, List.any_cons, ih, eqv_str, Bool.eq_iff_iff, Bool.or_eq_true, decide_eq_true_eq, decide_eq_true_eq, decide_eq_true_eq, List.mem_cons]
    exact ⟨fun h => h.elim (fun e => .inl e.symm) .inr, fun h => h.elim (fun e => .inl e.symm) .inr⟩
theorem depthAll_strs : ∀ bs : List Str, PyData.depthAll (bs.map .str) = 0
  | [] => by simp [PyData.depthAll]
  | b :: bs => by simp [PyData.depthAll, PyData.depth, depthAll_strs bs]
theorem depthAll_ints : ∀ bs : List Int, PyData.depthAll (bs.map .int) = 0
  | [] => by simp [PyData.depthAll]
  | b :: bs => by simp [PyData.depthAll, PyData.depth, depthAll_ints bs]
theorem nodup_snoc {α : Type} {xs : List α} {x : α} (h : xs.Nodup) (hx : x ∉ xs) : (xs ++ [x]).Nodup := by
  rw [List.nodup_append]
  refine ⟨h, by simp, fun a ha b hb e => ?_⟩
  have : b = x := by simpa using hb
  subst this; subst e; exact hx ha
end DL
namespace DL
open PySem PySem.Spec PyProof.Rows L2
theorem noDict_bool (b : Bool) : noDict (.bool b) = true := by simp [noDict]
theorem noDict_int (b : Int) : noDict (.int b) = true := by simp [noDict]
theorem noDict_str (b : Str) : noDict (.str b) = true := by simp [noDict]
theorem noDict_none : noDict .none = true := by simp [noDict]
theorem depth_bool (b : Bool) : (PyData.bool b).depth = 0 := by simp [PyData.depth]
/-- the reading of same(bool, bool) -/
theorem same_bool {b c : Bool} {n : Nat} {k : PyData → Prop} (h : k (.bool (sameB (.bool b) (.bool c)))) : ∃ x y, some (PyData.bool b) = some x ∧ some (PyData.bool c) = some y ∧ noDict x = true ∧ noDict y = true ∧ y.depth < n + 1 ∧ k (.bool (sameB x y)) :=
  ⟨_, _, rfl, rfl, noDict_bool _, noDict_bool _, by rw [depth_bool]; omega, h⟩
end DL
namespace DL
open PySem PySem.Spec PyProof.Rows L2
def isV : PyData → Bool
  | .str x => isW x
  | _ => true
def isIS : PyData → Bool
  | .str _ => true
  | .int _ => true
  | _ => false
end DL

/-! DL9: sorted texts, xs.pop(i). -/
namespace DL
open PySem PySem.Spec PyProof.Rows L2
section
variable {K : PySem.W.Frag} {G H : Hp}
theorem IsAll.ofStrs : ∀ {ys : List Str}, (∀ y ∈ ys, okS y) → IsAll K G (ys.map V.str) (ys.map .str)
  | [], _ => .nil
  | y :: ys, h => .cons (.str y (h y (by simp))) (IsAll.ofStrs fun z hz => h z (List.mem_cons_of_mem _ hz))
def gSort (ws : List W) (Q : W → Prop) : Prop := match ws with
  | [w] => ∃ (xs : List PyData) (ys : List Str), asL w = some xs ∧ xs = ys.map .str ∧ ys.length < 64 ∧ ∀ zs : List Str, zs.Perm ys → sortedS zs = true → Q (.l (zs.map .str))
  | _ => False
theorem cd_sort : CallD K (rSortedS K) gSort := by
  intro G0 H0 Hx G H σ ρ vs ws Q' Q E r q k
  unfold gSort at q
  split at q
  · obtain ⟨v, rfl, r1⟩ := r.one
    obtain ⟨xs, ys, e1, rfl, l, q⟩ := q
    obtain ⟨p, us, rfl, h1, z, a⟩ := r1.asL E e1
    have oks := a.strOk
    rw [a.strs] at h1
    refine ⟨p, ys, rfl, h1, l, fun zs p hp hs hl => k _ (.l (zs.map .str)) _ _ (Up.newH E.gh hl) ⟨p, zs.map V.str, rfl, hl, E.gh.back hl, upd_same, ?_, IsAll.ofStrs fun y hy => oks y (hp.mem_iff.mp hy)⟩ (q zs hp hs)⟩
    rw [List.length_map, hp.length_eq, sizeLine_eq]; omega
  · exact q.elim
end
end DL
namespace DL
open PySem PySem.Spec PyProof.Rows L2
/-! ### schemas and facts as data -/
structure Tb where
  n : Str
  k : Nat
  r : Nat
def tbD (t : Tb) : PyData := .tuple [.str t.n, .int t.k, .int t.r]
def findT (ts : List Tb) (n : Str) : Option Tb := ts.find? fun t => decide (t.n = n)
def tabD : Option Tb → PyData
  | none => .none
  | some t => tbD t
def okV (y : PyData) : Prop := isIS y = true ∧ isV y = true
structure SchOk (ts : List Tb) : Prop where
  few : ts.length ≤ 20
  nd : (ts.map Tb.n).Nodup
  srt : sortedS (ts.map Tb.n) = true
  wd : ∀ t ∈ ts, isW t.n = true ∧ t.k + t.r ≤ 8
structure Fc where
  n : Str
  row : List PyData
def fD (f : Fc) : PyData := .tuple [.str f.n, .tuple f.row]
/-- the fact fits the schema -/
def fits (ts : List Tb) (f : Fc) : Prop := (∃ t, findT ts f.n = some t ∧ f.row.length = t.k + t.r) ∧ ∀ y ∈ f.row, okV y
theorem findT_mem {ts : List Tb} (nd : (ts.map Tb.n).Nodup) {t : Tb} (h : t ∈ ts) : findT ts t.n = some t := by
  induction ts with
  | nil => cases h
  | cons u us ih =>
    unfold findT at ih ⊢
    rw [List.map_cons, List.nodup_cons] at nd
    rw [List.find?_cons]
    rcases List.mem_cons.mp h with e | e
    · subst e; simp
    · have : u.n ≠ t.n := fun z => nd.1 (z ▸ List.mem_map.mpr ⟨t, e, rfl⟩)
      rw [decide_eq_false this]
      exact ih nd.2 e
theorem findT_some {ts : List Tb} {n : Str} {t : Tb} (h : findT ts n = some t) : t ∈ ts ∧ t.n = n := by
  unfold findT at h
  exact ⟨List.mem_of_find?_eq_some h, by simpa using List.find?_some h⟩
theorem noDict_okV {y : PyData} (h : okV y) : noDict y = true := by
  cases y with
  | int i => exact noDict_int i
  | str i => exact noDict_str i
  | _ => exact absurd h.1 (by simp [isIS])
theorem depth_okV {y : PyData} (h : okV y) : y.depth = 0 := by
  cases y with
  | int i => simp [PyData.depth]
  | str i => simp [PyData.depth]
  | _ => exact absurd h.1 (by simp [isIS])
theorem noDict_tbD (t : Tb) : noDict (tbD t) = true := noDict_tuple fun x hx => by
  simp at hx
  rcases hx with e | e | e <;> subst e <;> first | exact noDict_str _ | exact noDict_int _
theorem depth_tbD (t : Tb) : (tbD t).depth = 1 := by
  simp [tbD, PyData.depth, PyData.depthAll]
theorem noDict_tabD (t : Option Tb) : noDict (tabD t) = true := by
  cases t with
  | none => exact noDict_none
  | some t => exact noDict_tbD t
theorem depth_tabD (t : Option Tb) : (tabD t).depth ≤ 1 := by
  cases t with
  | none => simp [tabD, PyData.depth]
  | some t => exact Nat.le_of_eq (depth_tbD t)
theorem cutD_take (xs : List PyData) (k : Nat) : DL.cutD xs none (some (k : Int)) = xs.take k := by
  unfold DL.cutD
  rw [HT.sIx_nat, HT.sIx_none, Nat.sub_zero, List.drop_zero]
  exact (List.take_eq_take_min ..).symm
theorem cutD_drop (xs : List PyData) (k : Nat) : DL.cutD xs (some (k : Int)) none = xs.drop k := by
  unfold DL.cutD
  rw [HT.sIx_nat, HT.sIx_none]
  by_cases h : k ≤ xs.length
  · rw [Nat.min_eq_left h, List.take_of_length_le (by rw [List.length_drop]; omega)]
  · rw [Nat.min_eq_right (by omega), List.drop_of_length_le (Nat.le_refl _), List.drop_of_length_le (by omega), List.take_nil]
theorem filter_pos {α : Type} {xs : List α} {p : α → Bool} {i : Nat} {a : α} (h : xs[i]? = some a) (hp : p a = true) : (xs.take (i + 1)).filter p = (xs.take i).filter p ++ [a] := by
  rw [List.take_add_one, h, List.filter_append]
  simp [hp]
theorem filter_neg {α : Type} {xs : List α} {p : α → Bool} {i : Nat} {a : α} (h : xs[i]? = some a) (hp : p a = false) : (xs.take (i + 1)).filter p = (xs.take i).filter p := by
  rw [List.take_add_one, h, List.filter_append]
  simp [hp]
theorem findT_at {ts : List Tb} {n : Str} {i : Nat} {t : Tb} (h : ∀ t ∈ ts.take i, t.n ≠ n) (ht : ts[i]? = some t) (e : t.n = n) : findT ts n = some t := by
  induction ts generalizing i with
  | nil => cases ht
  | cons u us ih =>
    unfold findT at ih ⊢
    rw [List.find?_cons]
    cases i with
    | zero =>
      have : u = t := by simpa using ht
      subst this
      rw [decide_eq_true e]
    | succ i =>
      have h0 : u.n ≠ n := h u (by simp)
      rw [decide_eq_false h0]
      exact ih (i := i) (fun t m => h t (by simp [m])) (by simpa using ht)
theorem findT_none {ts : List Tb} {n : Str} (h : ∀ t ∈ ts, t.n ≠ n) : findT ts n = none := by
  unfold findT
  rw [List.find?_eq_none]
  intro t m
  simpa using h t m
end DL
/-! ### xs.pop(i), dropped -/
namespace DL
open PySem PySem.Spec PyProof.Rows L2
section
variable {K : PySem.W.Frag} {X : Cx} {Z : Wish} {a e : Expr} {pos : Pos} {te : TEd}
def sPopAt (j : Nat) (u : TAd) : TSd := fun D ρ => onL ρ j fun xs => u ρ fun ws => match ws with
  | [.d (.int i)] => 0 ≤ i ∧ i < xs.length ∧ D.nx (ρ.set j (some (.l (xs.eraseIdx i.toNat))))
  | _ => False
theorem IsAll.eraseAt {G : Hp} : ∀ {vs : List V} {ds : List PyData} (i : Nat), IsAll K G vs ds → IsAll K G (vs.eraseIdx i) (ds.eraseIdx i)
  | _, _, _, .nil => .nil
  | _, _, 0, .cons _ b => b
  | _, _, i + 1, .cons a b => .cons a (IsAll.eraseAt i b)
theorem snd_popAt {i : Nat} {us : TA} {u : TAd} (s1 : SndA K Z us u) : SndS K Z (tDrop (tBM K "list" rPopAt (tVar i) us)) (sPopAt i u) := by
  intro G0 H0 G H σ ρ D' D E gd h n r b c
  obtain ⟨xs, e1, h⟩ := onL_of h
  obtain ⟨p, vs, hp, hv, z, al⟩ := own_at E e1
  refine ⟨.ref p, hp, .inl ⟨rfl, vs, SqL.of hv⟩, ?_⟩
  refine s1 G0 H0 G H σ ρ _ _ E gd h fun as ws G1 H1 u1 r1 q1 => ?_
  split at q1
  · rename_i j
    obtain ⟨v1, rfl, ra⟩ := r1.one
    cases ra
    obtain ⟨z0, z1, q⟩ := q1
    have uf := frzAll_up u1
    have hl := al.len
    have szl : (sizeLine : Nat) = 16777216 := sizeLine_eq
    have hj : j.toNat < vs.length := by omega
    refine ⟨p, vs, j, j.toNat, vs[j.toNat], rfl, rfl, u1.h _ _ hv, by omega, by omega, ?_, List.getElem?_eq_getElem hj, n _ _ _ _ ((E.to uf).mut (gx_some e1) hp (Nat.le_trans (List.length_eraseIdx_le ..) z) ?_) q⟩
    · unfold seqIndex?
      have e0 : ¬ j < 0 := by omega
      simp only [if_neg e0]
      have e2 : (0 ≤ j) := z0
      have e3 : j < (vs.length : Int) := by omega
      simp [e2, e3]
    · exact (al.up uf.g).eraseAt _
  · exact q1.elim
theorem ds_popAt (j : Nat) {u : TAd} {x : Str} {pn apos cpos : Pos} (hu : PDA X Z [a] u) (hN : X.N[j]? = some x := by rfl) (hv : Vis X.env.scope x := by first | exact Or.inl rfl | exact Or.inr (Or.inl rfl) | exact Or.inr (Or.inr rfl)) (hd : (x == ("__debug__" : Str)) = false := by decide) (hcd : (x == ("__classdict__" : Str)) = false := by decide)
    (hbase : attributeBase (.Name x pn) "pop" X.env (eval (.Name x pn) X.env) = eval (.Name x pn) X.env := by rfl)
    (hfew : ((backTo cpos (starEach [a] X.env)).all (fun x => !x.1) && (backToKw cpos (keywordEach [] X.env)).all (fun x => x.1.isSome) && decide ([a].length + ([] : List Keyword).length + (if ([] : List Keyword).isEmpty then 0 else 1) < 30)) = true := by rfl)
    (hline : (apos.endLine == cpos.line) = true := by rfl) (hst : starEach [a] X.env = (false, eval a X.env) :: starEach [] X.env := by rfl) (hplain : (backTo cpos (starEach [] X.env)).any (·.1) = false := by rfl)
    (hs : swapsWith (.Call (.Attribute (.Name x pn) "pop" apos) [a] [] cpos) none pos.line X.env = pure false := by rfl) :
    PDS X Z (.Expr (.Call (.Attribute (.Name x pn) "pop" apos) [a] [] cpos) pos) (sPopAt j u) := by
  obtain ⟨t1, p1, s1⟩ := hu
  exact ⟨_, ps_expr (pe_bm PySem.F.plainAttrs_list PySem.F.slot_list_pop PySem.F.type_list_pop mt_popAt (pe_var hN hv hd hcd) p1 hbase hfew hline hst hplain) hs, snd_popAt s1⟩
end
end DL
namespace DL
open PySem PySem.Spec PyProof.Rows L2
/-- is this a fact? -/
def isF (ts : List Tb) (n : Str) (row : List PyData) : Bool := match findT ts n with
  | none => false
  | some t => decide (row.length = t.k + t.r) && row.all isV
theorem all_snoc {P : PyData → Prop} {xs : List PyData} {x : PyData} (h : ∀ y ∈ xs, P y) (hx : P x) : ∀ y ∈ xs ++ [x], P y := fun y hy => (List.mem_append.mp hy).elim (h y) fun e => by
  have e : y = x := by simpa using e
  subst e; exact hx
end DL

namespace Pf
open PySem PySem.Spec PyProof.Rows L2 DL
def topS (i : Nat) : Stmt := PySem.Challenge.pw_everymending_k04_tables_and_facts.main.body.getD i (.Pass ⟨0, 0, 0, 0⟩)
/-! ### is_word -/
abbrev s_p_is_word : Stmt := topS 2
abbrev n_p_is_word : List Str := ["text", "char"]
theorem sc_p_is_word : FnScope n_p_is_word ["text"] (defScope s_p_is_word) := ⟨rfl, rfl, rfl, by decide +kernel, rfl, by decide +kernel, by decide +kernel⟩

/-! ### is_value -/
abbrev s_p_is_value : Stmt := topS 3
abbrev n_p_is_value : List Str := ["value"]
theorem sc_p_is_value : FnScope n_p_is_value ["value"] (defScope s_p_is_value) := ⟨rfl, rfl, rfl, by decide +kernel, rfl, by decide +kernel, by decide +kernel⟩

/-! ### is_row -/
abbrev s_p_is_row : Stmt := topS 4
abbrev n_p_is_row : List Str := ["row", "value"]
theorem sc_p_is_row : FnScope n_p_is_row ["row"] (defScope s_p_is_row) := ⟨rfl, rfl, rfl, by decide +kernel, rfl, by decide +kernel, by decide +kernel⟩

/-! ### table_of -/
abbrev s_p_table_of : Stmt := topS 6
abbrev n_p_table_of : List Str := ["schema", "name", "table"]
theorem sc_p_table_of : FnScope n_p_table_of ["schema", "name"] (defScope s_p_table_of) := ⟨rfl, rfl, rfl, by decide +kernel, rfl, by decide +kernel, by decide +kernel⟩

/-! ### is_fact -/
abbrev s_p_is_fact : Stmt := topS 7
abbrev n_p_is_fact : List Str := ["schema", "name", "row", "table"]
theorem sc_p_is_fact : FnScope n_p_is_fact ["schema", "name", "row"] (defScope s_p_is_fact) := ⟨rfl, rfl, rfl, by decide +kernel, rfl, by decide +kernel, by decide +kernel⟩

/-! ### _law_draws -/
abbrev s_w_draws : Stmt := topS 9
abbrev n_w_draws : List Str := ["_law_script", "_law_many", "_law_cells", "_law_rest", "_law_draws_here", "_law_k", "_law_at", "_law_mixed", "_law_cell"]
theorem sc_w_draws : FnScope n_w_draws ["_law_script", "_law_many"] (defScope s_w_draws) := ⟨rfl, rfl, rfl, by decide +kernel, rfl, by decide +kernel, by decide +kernel⟩

/-! ### _law_take -/
abbrev s_w_take : Stmt := topS 10
abbrev n_w_take : List Str := ["_law_draws_here", "_law_many"]
theorem sc_w_take : FnScope n_w_take ["_law_draws_here", "_law_many"] (defScope s_w_take) := ⟨rfl, rfl, rfl, by decide +kernel, rfl, by decide +kernel, by decide +kernel⟩

/-! ### _law_pick -/
abbrev s_w_pick : Stmt := topS 11
abbrev n_w_pick : List Str := ["_law_draws_here", "_law_row"]
theorem sc_w_pick : FnScope n_w_pick ["_law_draws_here", "_law_row"] (defScope s_w_pick) := ⟨rfl, rfl, rfl, by decide +kernel, rfl, by decide +kernel, by decide +kernel⟩

/-! ### _law_size -/
abbrev s_w_size : Stmt := topS 12
abbrev n_w_size : List Str := ["_law_draws_here", "_law_script", "_law_kind", "_law_number", "_law_k"]
theorem sc_w_size : FnScope n_w_size ["_law_draws_here", "_law_script"] (defScope s_w_size) := ⟨rfl, rfl, rfl, by decide +kernel, rfl, by decide +kernel, by decide +kernel⟩

/-! ### _law_same -/
abbrev s_w_same : Stmt := topS 13
abbrev n_w_same : List Str := ["_law_actual", "_law_due", "_law_k"]
theorem sc_w_same : FnScope n_w_same ["_law_actual", "_law_due"] (defScope s_w_same) := ⟨rfl, rfl, rfl, by decide +kernel, rfl, by decide +kernel, by decide +kernel⟩

/-! ### _law_table -/
abbrev s_w_table : Stmt := topS 14
abbrev n_w_table : List Str := ["_law_schema", "_law_name", "_law_table_here"]
theorem sc_w_table : FnScope n_w_table ["_law_schema", "_law_name"] (defScope s_w_table) := ⟨rfl, rfl, rfl, by decide +kernel, rfl, by decide +kernel, by decide +kernel⟩

/-! ### _law_is_word -/
abbrev s_w_is_word : Stmt := topS 15
abbrev n_w_is_word : List Str := ["_law_text", "_law_char"]
theorem sc_w_is_word : FnScope n_w_is_word ["_law_text"] (defScope s_w_is_word) := ⟨rfl, rfl, rfl, by decide +kernel, rfl, by decide +kernel, by decide +kernel⟩

/-! ### _law_words -/
abbrev s_w_words : Stmt := topS 16
abbrev n_w_words : List Str := ["_law_draws_here", "_law_many", "_law_words_here", "_law_k", "_law_size_here", "_law_word", "_law_j", "_law_other"]
theorem sc_w_words : FnScope n_w_words ["_law_draws_here", "_law_many"] (defScope s_w_words) := ⟨rfl, rfl, rfl, by decide +kernel, rfl, by decide +kernel, by decide +kernel⟩

/-! ### _law_strange -/
abbrev s_w_strange : Stmt := topS 17
abbrev n_w_strange : List Str := ["_law_draws_here", "_law_word", "_law_sign", "_law_at"]
theorem sc_w_strange : FnScope n_w_strange ["_law_draws_here", "_law_word"] (defScope s_w_strange) := ⟨rfl, rfl, rfl, by decide +kernel, rfl, by decide +kernel, by decide +kernel⟩

/-! ### _law_any_value -/
abbrev s_w_any_value : Stmt := topS 18
abbrev n_w_any_value : List Str := ["_law_draws_here", "_law_script", "_law_words_here"]
theorem sc_w_any_value : FnScope n_w_any_value ["_law_draws_here", "_law_script", "_law_words_here"] (defScope s_w_any_value) := ⟨rfl, rfl, rfl, by decide +kernel, rfl, by decide +kernel, by decide +kernel⟩

/-! ### _law_any_schema -/
abbrev s_w_any_schema : Stmt := topS 19
abbrev n_w_any_schema : List Str := ["_law_draws_here", "_law_words_here", "_law_many", "_law_found", "_law_name", "_law_key", "_law_rest"]
theorem sc_w_any_schema : FnScope n_w_any_schema ["_law_draws_here", "_law_words_here"] (defScope s_w_any_schema) := ⟨rfl, rfl, rfl, by decide +kernel, rfl, by decide +kernel, by decide +kernel⟩

/-! ### _law_is_fact -/
abbrev s_w_is_fact : Stmt := topS 20
abbrev n_w_is_fact : List Str := ["_law_schema", "_law_name", "_law_row", "_law_table_here", "_law_value"]
theorem sc_w_is_fact : FnScope n_w_is_fact ["_law_schema", "_law_name", "_law_row"] (defScope s_w_is_fact) := ⟨rfl, rfl, rfl, by decide +kernel, rfl, by decide +kernel, by decide +kernel⟩

/-! ### _law_rekeyed -/
abbrev s_w_rekeyed : Stmt := topS 21
abbrev n_w_rekeyed : List Str := ["_law_draws_here", "_law_schema", "_law_found", "_law_table_here", "_law_step"]
theorem sc_w_rekeyed : FnScope n_w_rekeyed ["_law_draws_here", "_law_schema"] (defScope s_w_rekeyed) := ⟨rfl, rfl, rfl, by decide +kernel, rfl, by decide +kernel, by decide +kernel⟩

/-! ### _law_changed_row -/
abbrev s_w_changed_row : Stmt := topS 22
abbrev n_w_changed_row : List Str := ["_law_draws_here", "_law_script", "_law_row", "_law_words_here", "_law_kind", "_law_at"]
theorem sc_w_changed_row : FnScope n_w_changed_row ["_law_draws_here", "_law_script", "_law_row", "_law_words_here"] (defScope s_w_changed_row) := ⟨rfl, rfl, rfl, by decide +kernel, rfl, by decide +kernel, by decide +kernel⟩

/-! ### law -/
abbrev s_the_law : Stmt := topS 23
abbrev n_the_law : List Str := ["_law_script", "_law_draws_here", "_law_words_here", "_law_schema", "_law_names", "_law_name", "_law_other", "_law_row", "_law_table_here", "_law_k", "_law_near"]
theorem sc_the_law : FnScope n_the_law ["_law_script"] (defScope s_the_law) := ⟨rfl, rfl, rfl, by decide +kernel, rfl, by decide +kernel, by decide +kernel⟩

/-- what the top has written -/
structure Txt (K : PySem.W.Frag) (mg : Str → Option Value) where
  m_abs : mg "abs" = none
  m_all : mg "all" = none
  m_bool : mg "bool" = none
  m_int : mg "int" = none
  m_isinstance : mg "isinstance" = none
  m_len : mg "len" = none
  m_list : mg "list" = none
  m_max : mg "max" = none
  m_range : mg "range" = none
  m_sorted : mg "sorted" = none
  m_str : mg "str" = none
  m_tuple : mg "tuple" = none
  tk_LETTERS : Tok
  c_LETTERS : mg "LETTERS" = some (.str (Str.ofString "abcdefghijklmnopqrstuvwxyz") tk_LETTERS)
  f_p_is_word : Addr
  fd_p_is_word : FuncData
  F_p_is_word : Fun K "is_word" "is_word" s_p_is_word f_p_is_word fd_p_is_word
  g_p_is_word : mg "is_word" = some (.ref f_p_is_word)
  f_p_is_value : Addr
  fd_p_is_value : FuncData
  F_p_is_value : Fun K "is_value" "is_value" s_p_is_value f_p_is_value fd_p_is_value
  g_p_is_value : mg "is_value" = some (.ref f_p_is_value)
  f_p_is_row : Addr
  fd_p_is_row : FuncData
  F_p_is_row : Fun K "is_row" "is_row" s_p_is_row f_p_is_row fd_p_is_row
  g_p_is_row : mg "is_row" = some (.ref f_p_is_row)
  f_p_table_of : Addr
  fd_p_table_of : FuncData
  F_p_table_of : Fun K "table_of" "table_of" s_p_table_of f_p_table_of fd_p_table_of
  g_p_table_of : mg "table_of" = some (.ref f_p_table_of)
  f_p_is_fact : Addr
  fd_p_is_fact : FuncData
  F_p_is_fact : Fun K "is_fact" "is_fact" s_p_is_fact f_p_is_fact fd_p_is_fact
  g_p_is_fact : mg "is_fact" = some (.ref f_p_is_fact)
  f_w_draws : Addr
  fd_w_draws : FuncData
  F_w_draws : Fun K "_law_draws" "_law_draws" s_w_draws f_w_draws fd_w_draws
  g_w_draws : mg "_law_draws" = some (.ref f_w_draws)
  f_w_take : Addr
  fd_w_take : FuncData
  F_w_take : Fun K "_law_take" "_law_take" s_w_take f_w_take fd_w_take
  g_w_take : mg "_law_take" = some (.ref f_w_take)
  f_w_pick : Addr
  fd_w_pick : FuncData
  F_w_pick : Fun K "_law_pick" "_law_pick" s_w_pick f_w_pick fd_w_pick
  g_w_pick : mg "_law_pick" = some (.ref f_w_pick)
  f_w_size : Addr
  fd_w_size : FuncData
  F_w_size : Fun K "_law_size" "_law_size" s_w_size f_w_size fd_w_size
  g_w_size : mg "_law_size" = some (.ref f_w_size)
  f_w_same : Addr
  fd_w_same : FuncData
  F_w_same : Fun K "_law_same" "_law_same" s_w_same f_w_same fd_w_same
  g_w_same : mg "_law_same" = some (.ref f_w_same)
  f_w_table : Addr
  fd_w_table : FuncData
  F_w_table : Fun K "_law_table" "_law_table" s_w_table f_w_table fd_w_table
  g_w_table : mg "_law_table" = some (.ref f_w_table)
  f_w_is_word : Addr
  fd_w_is_word : FuncData
  F_w_is_word : Fun K "_law_is_word" "_law_is_word" s_w_is_word f_w_is_word fd_w_is_word
  g_w_is_word : mg "_law_is_word" = some (.ref f_w_is_word)
  f_w_words : Addr
  fd_w_words : FuncData
  F_w_words : Fun K "_law_words" "_law_words" s_w_words f_w_words fd_w_words
  g_w_words : mg "_law_words" = some (.ref f_w_words)
  f_w_strange : Addr
  fd_w_strange : FuncData
  F_w_strange : Fun K "_law_strange" "_law_strange" s_w_strange f_w_strange fd_w_strange
  g_w_strange : mg "_law_strange" = some (.ref f_w_strange)
  f_w_any_value : Addr
  fd_w_any_value : FuncData
  F_w_any_value : Fun K "_law_any_value" "_law_any_value" s_w_any_value f_w_any_value fd_w_any_value
  g_w_any_value : mg "_law_any_value" = some (.ref f_w_any_value)
  f_w_any_schema : Addr
  fd_w_any_schema : FuncData
  F_w_any_schema : Fun K "_law_any_schema" "_law_any_schema" s_w_any_schema f_w_any_schema fd_w_any_schema
  g_w_any_schema : mg "_law_any_schema" = some (.ref f_w_any_schema)
  f_w_is_fact : Addr
  fd_w_is_fact : FuncData
  F_w_is_fact : Fun K "_law_is_fact" "_law_is_fact" s_w_is_fact f_w_is_fact fd_w_is_fact
  g_w_is_fact : mg "_law_is_fact" = some (.ref f_w_is_fact)
  f_w_rekeyed : Addr
  fd_w_rekeyed : FuncData
  F_w_rekeyed : Fun K "_law_rekeyed" "_law_rekeyed" s_w_rekeyed f_w_rekeyed fd_w_rekeyed
  g_w_rekeyed : mg "_law_rekeyed" = some (.ref f_w_rekeyed)
  f_w_changed_row : Addr
  fd_w_changed_row : FuncData
  F_w_changed_row : Fun K "_law_changed_row" "_law_changed_row" s_w_changed_row f_w_changed_row fd_w_changed_row
  g_w_changed_row : mg "_law_changed_row" = some (.ref f_w_changed_row)
  f_the_law : Addr
  fd_the_law : FuncData
  F_the_law : Fun K "law" "law" s_the_law f_the_law fd_the_law
  g_the_law : mg "law" = some (.ref f_the_law)
section
variable {P : Program} {w : World} {K : PySem.W.Frag} {mg : Str → Option Value} {base : Heap}
theorem bd_p_is_word (T : Txt K mg) : Binds K T.fd_p_is_word ["text"] [] := T.F_p_is_word.binds fun _ _ _ _ _ _ us hl => match us, hl with | [_], _ => rfl
theorem bd_p_is_value (T : Txt K mg) : Binds K T.fd_p_is_value ["value"] [] := T.F_p_is_value.binds fun _ _ _ _ _ _ us hl => match us, hl with | [_], _ => rfl
theorem bd_p_is_row (T : Txt K mg) : Binds K T.fd_p_is_row ["row"] [] := T.F_p_is_row.binds fun _ _ _ _ _ _ us hl => match us, hl with | [_], _ => rfl
theorem bd_p_table_of (T : Txt K mg) : Binds K T.fd_p_table_of ["schema", "name"] [] := T.F_p_table_of.binds fun _ _ _ _ _ _ us hl => match us, hl with | [_, _], _ => rfl
theorem bd_p_is_fact (T : Txt K mg) : Binds K T.fd_p_is_fact ["schema", "name", "row"] [] := T.F_p_is_fact.binds fun _ _ _ _ _ _ us hl => match us, hl with | [_, _, _], _ => rfl
theorem bd_w_draws (T : Txt K mg) : Binds K T.fd_w_draws ["_law_script", "_law_many"] [] := T.F_w_draws.binds fun _ _ _ _ _ _ us hl => match us, hl with | [_, _], _ => rfl
theorem bd_w_take (T : Txt K mg) : Binds K T.fd_w_take ["_law_draws_here", "_law_many"] [] := T.F_w_take.binds fun _ _ _ _ _ _ us hl => match us, hl with | [_, _], _ => rfl
theorem bd_w_pick (T : Txt K mg) : Binds K T.fd_w_pick ["_law_draws_here", "_law_row"] [] := T.F_w_pick.binds fun _ _ _ _ _ _ us hl => match us, hl with | [_, _], _ => rfl
theorem bd_w_size (T : Txt K mg) : Binds K T.fd_w_size ["_law_draws_here", "_law_script"] [] := T.F_w_size.binds fun _ _ _ _ _ _ us hl => match us, hl with | [_, _], _ => rfl
theorem bd_w_same (T : Txt K mg) : Binds K T.fd_w_same ["_law_actual", "_law_due"] [] := T.F_w_same.binds fun _ _ _ _ _ _ us hl => match us, hl with | [_, _], _ => rfl
theorem bd_w_table (T : Txt K mg) : Binds K T.fd_w_table ["_law_schema", "_law_name"] [] := T.F_w_table.binds fun _ _ _ _ _ _ us hl => match us, hl with | [_, _], _ => rfl
theorem bd_w_is_word (T : Txt K mg) : Binds K T.fd_w_is_word ["_law_text"] [] := T.F_w_is_word.binds fun _ _ _ _ _ _ us hl => match us, hl with | [_], _ => rfl
theorem bd_w_words (T : Txt K mg) : Binds K T.fd_w_words ["_law_draws_here", "_law_many"] [] := T.F_w_words.binds fun _ _ _ _ _ _ us hl => match us, hl with | [_, _], _ => rfl
theorem bd_w_strange (T : Txt K mg) : Binds K T.fd_w_strange ["_law_draws_here", "_law_word"] [] := T.F_w_strange.binds fun _ _ _ _ _ _ us hl => match us, hl with | [_, _], _ => rfl
theorem bd_w_any_value (T : Txt K mg) : Binds K T.fd_w_any_value ["_law_draws_here", "_law_script", "_law_words_here"] [] := T.F_w_any_value.binds fun _ _ _ _ _ _ us hl => match us, hl with | [_, _, _], _ => rfl
theorem bd_w_any_schema (T : Txt K mg) : Binds K T.fd_w_any_schema ["_law_draws_here", "_law_words_here"] [] := T.F_w_any_schema.binds fun _ _ _ _ _ _ us hl => match us, hl with | [_, _], _ => rfl
theorem bd_w_is_fact (T : Txt K mg) : Binds K T.fd_w_is_fact ["_law_schema", "_law_name", "_law_row"] [] := T.F_w_is_fact.binds fun _ _ _ _ _ _ us hl => match us, hl with | [_, _, _], _ => rfl
theorem bd_w_rekeyed (T : Txt K mg) : Binds K T.fd_w_rekeyed ["_law_draws_here", "_law_schema"] [] := T.F_w_rekeyed.binds fun _ _ _ _ _ _ us hl => match us, hl with | [_, _], _ => rfl
theorem bd_w_changed_row (T : Txt K mg) : Binds K T.fd_w_changed_row ["_law_draws_here", "_law_script", "_law_row", "_law_words_here"] [] := T.F_w_changed_row.binds fun _ _ _ _ _ _ us hl => match us, hl with | [_, _, _, _], _ => rfl
theorem bd_the_law (T : Txt K mg) : Binds K T.fd_the_law ["_law_script"] [] := T.F_the_law.binds fun _ _ _ _ _ _ us hl => match us, hl with | [_], _ => rfl
/-! ## is_word -/
def sp_p_is_word : Spd := fun ws Q _ => match ws with
  | [.d (.str x)] => Q (.d (.bool (isW x)))
  | _ => False
theorem ok_p_is_word (T : Txt K mg) : FnOk P w K mg base CX0 1 T.f_p_is_word T.fd_p_is_word ["text"] (toSp K sp_p_is_word) :=
  okD T.F_p_is_word sc_p_is_word (fun ws Q E h => by
    unfold sp_p_is_word at h
    split at h
    all_goals first | rfl | exact h.elim) (fun cdv A outer s H E Z hr =>
      (dss_one (ds_ret (d_and (d_cmp (op_neD hr.units) od_ne (dv 0) d_str) (d_one (d_cb (cr_all rfl) cd_all T.m_all (by decide +kernel) (da_cons (d_lc (own := [("char", 1)]) rfl sc_p_is_word.nd (di_seq (dv 0)) (blkOk_by (N := n_p_is_word) (sc := defScope s_p_is_word) (by decide +kernel)) (fun _ _ _ _ _ => (dg_name (i := 1) sc_p_is_word.nd)) (fun _ _ _ _ _ => dts_nil) (fun _ _ _ _ _ => (d_cmp (op_inA hr.u65) od_in (dv 1) (d_globS T.c_LETTERS)))) da_nil)))))))
    (fun ws Q E h => by
    unfold sp_p_is_word at h
    split at h
    · rename_i x
      refine ifb (fun e => ?_) (fun e => ?_)
      · have e1 : x ≠ Str.ofString "" := by simpa using e
        rw [isW_of e1] at h
        refine ⟨fun i acc => acc = (x.cps.toList.take i).map (fun c => PyData.bool (isLow c)), rfl, fun i y acc hy ha => ?_, fun acc ha => ?_⟩
        · obtain ⟨c, hc, rfl⟩ := map_some hy
          show acc ++ [PyData.bool (subS ⟨#[c]⟩ (Str.ofString "abcdefghijklmnopqrstuvwxyz"))] = (x.cps.toList.take (i + 1)).map (fun c => PyData.bool (isLow c))
          rw [in_letters, take_succ_map hc, ← ha]
        · have ha' : acc = (x.cps.toList.take (chsD x).length).map (fun c => PyData.bool (isLow c)) := ha
          rw [show (chsD x).length = x.cps.toList.length from List.length_map .., List.take_length] at ha'
          refine ⟨acc, x.cps.toList.map isLow, rfl, by rw [ha', List.map_map]; rfl, ?_⟩
          show Q (.d (.bool ((x.cps.toList.map isLow).all id)))
          rw [List.all_map]
          exact h
      · have e1 : x = Str.ofString "" := by simpa using e
        subst e1
        rw [isW_empty] at h
        exact h
    · exact h.elim)
/-! ## is_value -/
def sp_p_is_value : Spd := fun ws Q _ => match ws with
  | [.d y] => isIS y = true ∧ Q (.d (.bool (isV y)))
  | _ => False
theorem ok_p_is_value (T : Txt K mg) : FnOk P w K mg base CX0 2 T.f_p_is_value T.fd_p_is_value ["value"] (toSp K sp_p_is_value) :=
  okD T.F_p_is_value sc_p_is_value (fun ws Q E h => by
    unfold sp_p_is_value at h
    split at h
    all_goals first | rfl | exact h.elim) (fun cdv A outer s H E Z hr =>
      (dss_one (ds_ret (d_or (d_not (d_isi .str T.m_isinstance T.m_str (by decide +kernel) (dv 0))) (d_one (d_call (ok_p_is_word T) (hr.mono (by decide)) T.g_p_is_word T.F_p_is_word.kp (bd_p_is_word T) pass0 (da_cons (dv 0) da_nil)))))))
    (fun ws Q E h => by
    unfold sp_p_is_value at h
    split at h
    · rename_i y
      obtain ⟨h1, h⟩ := h
      cases y with
      | str x => exact h
      | int i => exact h
      | _ => cases h1
    · exact h.elim)
/-! ## is_row -/
def sp_p_is_row : Spd := fun ws Q _ => match ws with
  | [.d (.tuple xs)] => xs.all isIS = true ∧ Q (.d (.bool (xs.all isV)))
  | _ => False
theorem ok_p_is_row (T : Txt K mg) : FnOk P w K mg base CX0 3 T.f_p_is_row T.fd_p_is_row ["row"] (toSp K sp_p_is_row) :=
  okD T.F_p_is_row sc_p_is_row (fun ws Q E h => by
    unfold sp_p_is_row at h
    split at h
    all_goals first | rfl | exact h.elim) (fun cdv A outer s H E Z hr =>
      (dss_one (ds_ret (d_cb (cr_all rfl) cd_all T.m_all (by decide +kernel) (da_cons (d_lc (own := [("value", 1)]) rfl sc_p_is_row.nd (di_seq (dv 0)) (blkOk_by (N := n_p_is_row) (sc := defScope s_p_is_row) (by decide +kernel)) (fun _ _ _ _ _ => (dg_name (i := 1) sc_p_is_row.nd)) (fun _ _ _ _ _ => dts_nil) (fun _ _ _ _ _ => (d_call (ok_p_is_value T) (hr.mono (by decide)) T.g_p_is_value T.F_p_is_value.kp (bd_p_is_value T) pass0 (da_cons (dv 1) da_nil)))) da_nil)))))
    (fun ws Q E h => by
    unfold sp_p_is_row at h
    split at h
    · rename_i xs
      obtain ⟨h1, h⟩ := h
      refine ⟨fun i acc => acc = (xs.take i).map (fun y => PyData.bool (isV y)), rfl, fun i y acc hy ha => ?_, fun acc ha => ?_⟩
      · have e : acc ++ [PyData.bool (isV y)] = (xs.take (i + 1)).map (fun y => PyData.bool (isV y)) := by rw [take_succ_map hy, ← ha]
        have h2 := List.all_eq_true.mp h1 y (List.mem_of_getElem? hy)
        cases y with
        | str x => exact ⟨rfl, e⟩
        | int x => exact ⟨rfl, e⟩
        | _ => cases h2
      · have ha' : acc = (xs.take xs.length).map (fun y => PyData.bool (isV y)) := ha
        rw [List.take_length] at ha'
        refine ⟨acc, xs.map isV, rfl, by rw [ha', List.map_map]; rfl, ?_⟩
        show Q (.d (.bool ((xs.map isV).all id)))
        rw [List.all_map]
        exact h
    · exact h.elim)
/-! ## table_of -/
def sp_p_table_of : Spd := fun ws Q _ => match ws with
  | [.d (.tuple xs), .d (.str n)] => ∃ ts : List Tb, xs = ts.map tbD ∧ Q (.d (tabD (findT ts n)))
  | _ => False
def inv_p_table_of (ts : List Tb) (n : Str) (i : Nat) (ρ : En) : Prop := ∃ o, (∀ t ∈ ts.take i, t.n ≠ n) ∧ ρ = [some (.d (.tuple (ts.map tbD))), some (.d (.str n)), o]
theorem ok_p_table_of (T : Txt K mg) : FnOk P w K mg base CX0 1 T.f_p_table_of T.fd_p_table_of ["schema", "name"] (toSp K sp_p_table_of) :=
  okD T.F_p_table_of sc_p_table_of (fun ws Q E h => by
    unfold sp_p_table_of at h
    split at h
    all_goals first | rfl | exact h.elim) (fun cdv A outer s H E Z hr =>
      (dss_cons (ds_for rfl (di_seq (dv 0)) (dg_name (i := 2) sc_p_table_of.nd)
      (dss_one (ds_if (dt_cmp (op_eqD hr.units) od_eq (d_ix (dv 2) d_int) (dv 1))
      (dss_one (ds_retv 2))
      dss_nil)))
      (dss_one (ds_ret d_non))))
    (fun ws Q E h => by
    unfold sp_p_table_of at h
    split at h
    · rename_i n
      obtain ⟨ts, rfl, h⟩ := h
      refine ⟨inv_p_table_of ts n, ⟨none, (fun t m => by simp at m), rfl⟩, ?_, ?_⟩
      · rintro i x ρ' hx ⟨o, hn, rfl⟩
        obtain ⟨t, ht, rfl⟩ := map_some hx
        refine ⟨_, rfl, ifd (fun e => ?_) (fun e => ?_)⟩
        · rw [findT_at hn ht e] at h
          exact h
        · refine ⟨_, fun u m => ?_, rfl⟩
          rw [List.take_add_one, ht] at m
          rcases List.mem_append.mp m with z | z
          · exact hn u z
          · have : u = t := by simpa using z
            subst this; exact e
      · rintro ρ' ⟨o, hn, rfl⟩
        rw [List.length_map, List.take_length] at hn
        rw [findT_none hn] at h
        exact h
    · exact h.elim)
/-! ## is_fact -/
def sp_p_is_fact : Spd := fun ws Q _ => match ws with
  | [.d (.tuple xs), .d (.str n), .d (.tuple row)] => ∃ ts : List Tb, xs = ts.map tbD ∧ row.all isIS = true ∧ Q (.d (.bool (isF ts n row)))
  | _ => False
theorem ok_p_is_fact (T : Txt K mg) : FnOk P w K mg base CX0 4 T.f_p_is_fact T.fd_p_is_fact ["schema", "name", "row"] (toSp K sp_p_is_fact) :=
  okD T.F_p_is_fact sc_p_is_fact (fun ws Q E h => by
    unfold sp_p_is_fact at h
    split at h
    all_goals first | rfl | exact h.elim) (fun cdv A outer s H E Z hr =>
      (dss_cons (ds_set (i := 3) sc_p_is_fact.nd (d_call (ok_p_table_of T) (hr.mono (by decide)) T.g_p_table_of T.F_p_table_of.kp (bd_p_table_of T) pass0 (da_cons (dv 0) (da_cons (dv 1) da_nil))))
      (dss_one (ds_ret (d_and (d_cmp op_notN od_notN (dv 3) d_non) (d_and (d_cmp (op_eqD hr.units) od_eq (d_cb call_lenX cd_len T.m_len (by decide +kernel) (da_cons (dv 2) da_nil)) (d_op op_addA od_add (d_ix (dv 3) d_int) (d_ix (dv 3) d_int))) (d_one (d_call (ok_p_is_row T) (hr.mono (by decide)) T.g_p_is_row T.F_p_is_row.kp (bd_p_is_row T) pass0 (da_cons (dv 2) da_nil)))))))))
    (fun ws Q E h => by
    unfold sp_p_is_fact at h
    split at h
    · rename_i n row
      obtain ⟨ts, rfl, hi, h⟩ := h
      refine ⟨ts, rfl, ?_⟩
      unfold isF at h
      cases e : findT ts n with
      | none =>
        rw [e] at h
        exact ⟨rfl, h⟩
      | some t =>
        rw [e] at h
        replace h : Q (.d (.bool (decide (row.length = t.k + t.r) && row.all isV))) := h
        refine ⟨rfl, fun _ => ⟨_, rfl, _, rfl, ?_⟩⟩
        have ec : (row.length : Int) = (t.k : Int) + t.r ↔ row.length = t.k + t.r := by omega
        refine ifd (fun e2 => ?_) (fun e2 => ?_)
        · rw [decide_eq_true (ec.mp e2)] at h
          exact ⟨hi, h⟩
        · rw [decide_eq_false (fun z => e2 (ec.mpr z))] at h
          exact h
    · exact h.elim)
/-! ## _law_draws -/
-- @wrap dss_drw
-- @cut 2
/-- the draws -/
def sp_w_draws : Spd := fun ws Q _ => match ws with
  | [.b xs, .d (.int m)] => ∃ ns : List Int, xs = ns.map .int ∧ ns.length ≤ 63 ∧ 0 ≤ m ∧ m ≤ 100000 ∧ Q .drw
  | _ => False
def mid_w_draws (w0 w1 : Option W) (ρ : En) : Prop := ∃ cs : List Int, 0 < cs.length ∧ cs.length ≤ 63 ∧ ρ = [w0, w1, some (.l (cs.map .int)), none, none, none, none, none, none]
def inv_w_draws (w0 w1 : Option W) (cs : List Int) (i : Nat) (ρ : En) : Prop := ∃ (rs ds : List Int) (o5 o6 o7 : Option W), ρ = [w0, w1, some (.l (cs.map .int)), some (.l (rs.map .int)), some (.l (ds.map .int)), o5, o6, o7, none] ∧
  rs.length = cs.length ∧ ds.length ≤ i ∧ ∀ x ∈ ds, 0 ≤ x
theorem grown_w_draws {ds : List Int} {i : Nat} {y : Int} (hl : ds.length ≤ i) (h : ∀ x ∈ ds, 0 ≤ x) (hy : 0 ≤ y) : (ds ++ [y]).length ≤ i + 1 ∧ ∀ x ∈ ds ++ [y], 0 ≤ x := by
  refine ⟨by rw [List.length_append]; simp; omega, fun x hx => ?_⟩
  rcases List.mem_append.mp hx with h' | h'
  · exact h x h'
  · have e : x = y := by simpa using h'
    rw [e]; exact hy
theorem ok_w_draws (T : Txt K mg) : FnOk P w K mg base CX0 1 T.f_w_draws T.fd_w_draws ["_law_script", "_law_many"] (toSp K sp_w_draws) :=
  okD T.F_w_draws sc_w_draws (fun ws Q E h => by
    unfold sp_w_draws at h
    split at h
    all_goals first | rfl | exact h.elim) (fun cdv A outer s H E Z hr =>
      (dss_drw (dss_cons (ds_setLc (i := 2) (own := [("_law_cell", 8)]) rfl sc_w_draws.nd (sw_true rfl rfl rfl (by decide +kernel)) (di_seq (dv 0)) (blkOk_by (N := n_w_draws) (sc := defScope s_w_draws) (by decide +kernel)) (fun _ _ _ _ _ => (dg_name (i := 8) sc_w_draws.nd)) (fun _ _ _ _ _ => dts_nil) (fun _ _ _ _ _ => (d_cty call_int1 cd_int T.m_int (by decide +kernel) (da_cons (dv 8) da_nil))))
      (dss_cut (ds_if (dt_cmp (op_eqD hr.units) od_eq (d_cb call_lenX cd_len T.m_len (by decide +kernel) (da_cons (dv 2) da_nil)) d_int)
      (dss_one (ds_app 2 d_int))
      dss_nil)
      (dss_cons (ds_set (i := 3) sc_w_draws.nd (d_cty call_list_of cd_list T.m_list (by decide +kernel) (da_cons (dv 2) da_nil)))
      (dss_cons (ds_set (i := 4) sc_w_draws.nd (d_lst da_nil))
      (dss_cons (ds_for rfl (di_rng1 T.m_range (da_cons (dv 1) da_nil)) (dg_name (i := 5) sc_w_draws.nd)
      (dss_cons (ds_set (i := 6) sc_w_draws.nd (d_op op_mod od_mod (dv 5) (d_cb call_lenX cd_len T.m_len (by decide +kernel) (da_cons (dv 2) da_nil))))
      (dss_one (ds_if (dt_cmp op_ge od_ge (d_ix (dv 2) (dv 6)) (d_op op_pow od_pow d_int d_int))
      (dss_cons (ds_app 4 (d_op op_mod od_mod (d_cty call_int1 cd_int T.m_int (by decide +kernel) (da_cons (d_ix (dv 3) (dv 6)) da_nil)) d_int))
      (dss_one (ds_seti 3 (d_op op_fdiv od_fdiv (d_ix (dv 3) (dv 6)) d_int) (dv 6))))
      (dss_cons (ds_set (i := 7) sc_w_draws.nd (d_op op_mod od_mod (d_cty call_int1 cd_int T.m_int (by decide +kernel) (da_cons (d_op op_addA od_add (d_op op_addA od_add (d_op op_mulA od_mulA (d_ix (dv 2) (dv 6)) d_int) (d_op op_mulA od_mulA (dv 5) d_int)) d_int) da_nil)) d_int))
      (dss_one (ds_app 4 (d_op op_mod od_mod (d_cty call_int1 cd_int T.m_int (by decide +kernel) (da_cons (d_op op_addA od_add (d_op op_addA od_add (d_op op_mulA od_mulA (dv 7) (dv 7)) (d_op op_mulA od_mulA d_int (dv 7))) (dv 5)) da_nil)) d_int))))))))
      (dss_cons (ds_rev 4)
      (dss_one (ds_retv 4))))))))))
    (fun ws Q E h => by
    unfold sp_w_draws at h
    split at h
    · obtain ⟨ns, rfl, hl, h0, h1, h⟩ := h
      rename_i m
      have sz : (sizeLine : Nat) = 16777216 := sizeLine_eq
      refine ⟨fun i acc => acc = (ns.take i).map PyData.int, rfl, fun i x acc hx ha => ?_, fun acc ha => ?_⟩
      · obtain ⟨n, hn, rfl⟩ := map_some hx
        show acc ++ [PyData.int n] = (ns.take (i + 1)).map PyData.int
        rw [take_succ_map hn, ← ha]
      · have ha' : acc = (ns.take (ns.map PyData.int).length).map PyData.int := ha
        rw [List.length_map, List.take_length] at ha'
        subst ha'
        refine ⟨mid_w_draws (some (.b (ns.map .int))) (some (.d (.int m))), ?_, ?_⟩
        · refine fun _ => ifd (fun e => ?_) (fun e => ?_)
          · have e1 : ns = [] := by
              have := congrArg List.length (List.length_eq_zero_iff.mp (by simpa using e : (ns.map PyData.int).length = 0))
              cases ns with
              | nil => rfl
              | cons a r => simp at e; omega
            subst e1
            exact ⟨by show 0 < sizeLine; omega, [0], by decide, by decide, rfl⟩
          · refine ⟨ns, ?_, hl, rfl⟩
            cases ns with
            | nil => exact absurd rfl e
            | cons a r => simp
        · rintro ρ' ⟨cs, c0, c1, rfl⟩
          refine ⟨by omega, by omega, inv_w_draws (some (.b (ns.map .int))) (some (.d (.int m))) cs, ⟨cs, [], none, none, none, rfl, rfl, Nat.le_refl _, fun x hx => by cases hx⟩, ?_, ?_⟩
          · rintro i x ρ' hx ⟨rs, ds, o5, o6, o7, rfl, hr, hd, hp⟩
            obtain ⟨hi, rfl⟩ := rngD_some hx
            have lc : ((cs.map PyData.int).length : Int) = cs.length := by rw [List.length_map]
            have b0 : 0 ≤ ((0 : Int) + (i : Nat)) % ((cs.map PyData.int).length : Int) := Int.emod_nonneg _ (by omega)
            have b1 : ((0 : Int) + (i : Nat)) % ((cs.map PyData.int).length : Int) < cs.length := by
              have := Int.emod_lt_of_pos ((0 : Int) + (i : Nat)) (show (0 : Int) < ((cs.map PyData.int).length : Int) by omega)
              omega
            refine fun _ => ⟨by omega, ?_⟩
            obtain ⟨c, _, _, hc⟩ := atI_map (f := PyData.int) b0 b1
            obtain ⟨r, _, _, hrr⟩ := atI_map (f := PyData.int) (xs := rs) b0 (by rw [hr]; exact b1)
            have ix : ixN (rs.map PyData.int).length (((0 : Int) + (i : Nat)) % ((cs.map PyData.int).length : Int)) = some (((0 : Int) + (i : Nat)) % ((cs.map PyData.int).length : Int)).toNat := ixN_nat b0 (by rw [show (rs.map PyData.int).length = rs.length from List.length_map .., hr]; exact b1)
            have hds : (ds.map PyData.int).length < sizeLine := by rw [List.length_map]; omega
            refine ⟨_, hc, ⟨by decide, by decide, by decide⟩, ifd (fun e => ?_) (fun e => ?_)⟩
            · obtain ⟨g1, g2⟩ := grown_w_draws hd hp (Int.emod_nonneg r (by decide : (1000 : Int) ≠ 0))
              refine ⟨_, hrr, by decide, hds, _, hrr, ⟨by decide, by decide⟩, _, ix, ?_⟩
              exact ⟨rs.set (((0 : Int) + (i : Nat)) % ((cs.map PyData.int).length : Int)).toNat (r / 1000), ds ++ [r % 1000], _, _, _, by rw [List.map_set, List.map_append]; rfl, by rw [List.length_set]; exact hr, g1, g2⟩
            · have k0 : 0 ≤ (c * 48271 + ((0 : Int) + (i : Nat)) * 69621 + 11) % 2147483647 := Int.emod_nonneg _ (by decide)
              have k1 := Int.emod_lt_of_pos (c * 48271 + ((0 : Int) + (i : Nat)) * 69621 + 11) (by decide : (0 : Int) < 2147483647)
              refine ⟨_, hc, .inr ⟨by decide, by decide⟩, .inr ⟨by decide, by decide⟩, by decide, .inl ⟨by omega, by omega⟩, .inl ⟨by decide, by decide⟩, by decide, hds, ?_⟩
              obtain ⟨g1, g2⟩ := grown_w_draws hd hp (Int.emod_nonneg ((c * 48271 + ((0 : Int) + (i : Nat)) * 69621 + 11) % 2147483647 * ((c * 48271 + ((0 : Int) + (i : Nat)) * 69621 + 11) % 2147483647) + 3 * ((c * 48271 + ((0 : Int) + (i : Nat)) * 69621 + 11) % 2147483647) + ((0 : Int) + (i : Nat))) (by decide : (1000003 : Int) ≠ 0))
              exact ⟨rs, _, _, _, _, by rw [List.map_append]; rfl, hr, g1, g2⟩
          · rintro ρ' ⟨rs, ds, o5, o6, o7, rfl, hr, hd, hp⟩
            rw [rngD_len] at hd
            exact ⟨ds.reverse, by rw [List.map_reverse], ⟨by rw [List.length_reverse]; omega, fun x hx => hp x (List.mem_reverse.mp hx)⟩, h⟩
    · exact h.elim)
/-! ## _law_take -/
/-- the next draw -/
def sp_w_take : Spd := fun ws Q _ => match ws with
  | [.drw, .d (.int n)] => 0 < n ∧ ∀ r : Int, 0 ≤ r → r < n → Q (.d (.int r))
  | _ => False
theorem ok_w_take (T : Txt K mg) : FnOk P w K mg base CX0 1 T.f_w_take T.fd_w_take ["_law_draws_here", "_law_many"] (toSp K sp_w_take) := by
  have sc := sc_w_take
  refine T.F_w_take.ok sc (fun vs H Q E h => ?_) (fun cdv A outer s H vs Q E hr h => ?_)
  · obtain ⟨G, ws, Q', E', gh, a, h, _⟩ := h
    rw [a.len]
    unfold sp_w_take at h
    split at h
    · rfl
    · exact h.elim
  · obtain ⟨G, ws, Q', E', gh, a, h, kq, _⟩ := h
    unfold sp_w_take at h
    split at h
    · obtain ⟨hn, h⟩ := h
      rename_i n
      cases a with | cons a1 a =>
      cases a with | cons a2 a =>
      cases a
      obtain ⟨p, rfl, gp⟩ := a1
      cases a2
      refine ⟨_, pss_opn (pss_cons (ps_if (pt_cmpR op_eq (pe_callB call_len_seq (by rfl) T.m_len (by decide +kernel) (pa_cons (pv 0) pa_nil)) pe_int (nomark _)) (pss_one (ps_ret pe_int)) pss_nil)
        (pss_one (ps_ret (pe_op op_mod (pe_callTy call_int1 (by rfl) T.m_int (by decide +kernel) (pa_cons (pe_bm0 PySem.F.plainAttrs_list PySem.F.slot_list_pop PySem.F.type_list_pop mt_pop (pv 0)) pa_nil)) (pv 1))))), ?_⟩
      refine ⟨p, gh _ _ gp, fun ns ok => ?_⟩
      have e0 : upd (upd H p (.lst (ns.map V.int))) p (drwO p) = H := by
        rw [upd_upd]
        funext b
        by_cases hb : b = p
        · subst hb; rw [upd_same]; exact (gh _ _ gp).symm
        · rw [upd_ne hb]
      refine ⟨.ref p, rfl, p, ns.map V.int, rfl, .inl (SqL.of upd_same), rfl, _, rfl, ifd (fun e => ?_) (fun e => ?_)⟩
      · refine ⟨ns, ok, upd_same, ?_⟩
        rw [e0]
        exact kq (.int 0) (.d (.int 0)) G H (Up.refl gh) (.int 0) (h 0 (by omega) hn)
      · have e1 : ns ≠ [] := fun z => by subst z; exact e rfl
        have e2 : (ns.map V.int)[(ns.map V.int).length - 1]? = some (.int (ns.getLast e1)) := by
          rw [← List.getLast?_eq_getElem?, List.getLast?_map, List.getLast?_eq_getLast e1]; rfl
        refine ⟨.ref p, rfl, .inl ⟨rfl, _, SqL.of upd_same⟩, p, _, _, rfl, rfl, upd_same, e2, .inl ⟨_, rfl, .int n, rfl, _, n, rfl, rfl, hn, ns.dropLast, ⟨?_, fun x hx => ok.2 x (List.dropLast_subset _ hx)⟩, ?_, ?_⟩⟩
        · have := ok.1
          rw [List.length_dropLast]; omega
        · rw [upd_same, List.map_dropLast]
        · rw [upd_upd, upd_upd]
          rw [upd_upd] at e0
          rw [e0]
          exact kq _ (.d (.int _)) G H (Up.refl gh) (.int _) (h _ (Int.emod_nonneg _ (by omega)) (Int.emod_lt_of_pos _ hn))
    · exact h.elim

/-! ## _law_pick -/
/-- one of the items, whichever -/
def sp_w_pick : Spd := fun ws Q _ => match ws with
  | [.drw, w] => ∃ xs, asQ w = some xs ∧ 0 < xs.length ∧ ∀ x ∈ xs, Q (.d x)
  | _ => False
theorem atI_in {xs : List PyData} {r : Int} (h0 : 0 ≤ r) (h1 : r < xs.length) : ∃ d, atI xs r = some d ∧ d ∈ xs := by
  obtain ⟨n, rfl⟩ := Int.eq_ofNat_of_zero_le h0
  have hn : n < xs.length := by omega
  exact ⟨xs[n], atI_nat (List.getElem?_eq_getElem hn), List.getElem_mem hn⟩
theorem ok_w_pick (T : Txt K mg) : FnOk P w K mg base CX0 2 T.f_w_pick T.fd_w_pick ["_law_draws_here", "_law_row"] (toSp K sp_w_pick) :=
  okD T.F_w_pick sc_w_pick (fun ws Q E h => by
    unfold sp_w_pick at h
    split at h
    all_goals first | rfl | exact h.elim) (fun cdv A outer s H E Z hr =>
      (dss_one (ds_ret (d_ix (dv 1) (d_call (ok_w_take T) (hr.mono (by decide)) T.g_w_take T.F_w_take.kp (bd_w_take T) pass0 (da_cons (dv 0) (da_cons (d_cb call_lenX cd_len T.m_len (by decide +kernel) (da_cons (dv 1) da_nil)) da_nil)))))))
    (fun ws Q E h => by
    unfold sp_w_pick at h
    split at h
    · rename_i w
      obtain ⟨xs, e, hl, h⟩ := h
      have key : ∀ r : Int, 0 ≤ r → r < xs.length → ∃ d, atI xs r = some d ∧ Q (.d d) := fun r h0 h1 => by
        obtain ⟨d, e, m⟩ := atI_in h0 h1
        exact ⟨d, e, h d m⟩
      cases w with
      | d y =>
        cases y <;> cases e
        · exact fun _ => ⟨by omega, key⟩
        · exact fun _ => ⟨by omega, key⟩
      | l ys => cases e; exact fun _ => ⟨by omega, key⟩
      | b ys => cases e; exact fun _ => ⟨by omega, key⟩
      | r ys => cases e; exact fun _ => ⟨by omega, key⟩
      | drw => cases e
    · exact h.elim)
/-! ## _law_size -/
/-- some size -/
def sp_w_size : Spd := fun ws Q _ => match ws with
  | [.drw, .b xs] => ∃ ns : List Int, xs = ns.map .int ∧ ns.length ≤ 63 ∧ ∀ i : Int, 0 ≤ i → Q (.d (.int i))
  | _ => False
def inv_w_size (w1 : W) (k : Int) (_ : Nat) (ρ : En) : Prop := ∃ (n : Int) (o : Option W), 0 ≤ n ∧ ρ = [some .drw, some w1, some (.d (.int k)), some (.d (.int n)), o]
theorem ok_w_size (T : Txt K mg) : FnOk P w K mg base CX0 2 T.f_w_size T.fd_w_size ["_law_draws_here", "_law_script"] (toSp K sp_w_size) :=
  okD T.F_w_size sc_w_size (fun ws Q E h => by
    unfold sp_w_size at h
    split at h
    all_goals first | rfl | exact h.elim) (fun cdv A outer s H E Z hr =>
      (dss_cons (ds_set (i := 2) sc_w_size.nd (d_call (ok_w_take T) (hr.mono (by decide)) T.g_w_take T.F_w_take.kp (bd_w_take T) pass0 (da_cons (dv 0) (da_cons d_int da_nil))))
      (dss_cons (ds_if (dt_cmp op_lt od_lt (dv 2) d_int)
      (dss_one (ds_ret (d_call (ok_w_take T) (hr.mono (by decide)) T.g_w_take T.F_w_take.kp (bd_w_take T) pass0 (da_cons (dv 0) (da_cons d_int da_nil)))))
      dss_nil)
      (dss_cons (ds_if (dt_cmp (op_eqD hr.units) od_eq (dv 2) d_int)
      (dss_one (ds_ret (d_call (ok_w_take T) (hr.mono (by decide)) T.g_w_take T.F_w_take.kp (bd_w_take T) pass0 (da_cons (dv 0) (da_cons d_int da_nil)))))
      dss_nil)
      (dss_cons (ds_if (dt_w (dw_or (dt_cmp (op_eqD hr.units) od_eq (dv 2) d_int) (dw_or1 (dt_cmp (op_eqD hr.units) od_eq (d_cb call_lenX cd_len T.m_len (by decide +kernel) (da_cons (dv 1) da_nil)) d_int))))
      (dss_cons (ds_set (i := 3) sc_w_size.nd d_int)
      (dss_cons (ds_for rfl (di_rng1 T.m_range (da_cons d_int da_nil)) (dg_name (i := 4) sc_w_size.nd)
      (dss_one (ds_set (i := 3) sc_w_size.nd (d_op op_addA od_add (d_op op_mulA od_mulA (dv 3) d_int) (d_call (ok_w_take T) (hr.mono (by decide)) T.g_w_take T.F_w_take.kp (bd_w_take T) pass0 (da_cons (dv 0) (da_cons d_int da_nil)))))))
      (dss_one (ds_retv 3))))
      dss_nil)
      (dss_one (ds_ret (d_cb call_abs cd_abs T.m_abs (by decide +kernel) (da_cons (d_cty call_int1 cd_int T.m_int (by decide +kernel) (da_cons (d_ix (dv 1) (d_call (ok_w_take T) (hr.mono (by decide)) T.g_w_take T.F_w_take.kp (bd_w_take T) pass0 (da_cons (dv 0) (da_cons (d_cb call_lenX cd_len T.m_len (by decide +kernel) (da_cons (dv 1) da_nil)) da_nil)))) da_nil)) da_nil)))))))))
    (fun ws Q E h => by
    unfold sp_w_size at h
    split at h
    · obtain ⟨ns, rfl, hl, h⟩ := h
      refine ⟨by decide, fun k k0 k1 => ?_⟩
      refine ifd (fun e => ?_) (fun e => ?_)
      · exact ⟨by decide, fun r r0 _ => h r r0⟩
      · refine ifd (fun e => ?_) (fun e => ?_)
        · exact ⟨by decide, fun r r0 _ => h r r0⟩
        · refine ifd (fun e => ?_) (fun e _ => ifd (fun e2 => ?_) (fun e2 => ?_))
          · refine ⟨by decide, by decide, inv_w_size (.b (ns.map .int)) k, ⟨0, none, by decide, rfl⟩, ?_, ?_⟩
            · rintro i x ρ' hx ⟨n, o, n0, rfl⟩
              refine ⟨.inr ⟨by decide, by decide⟩, by decide, fun r r0 r1 => ?_⟩
              exact ⟨n * 1000 + r, _, by omega, rfl⟩
            · rintro ρ' ⟨n, o, n0, rfl⟩
              exact h n n0
          · refine ⟨by decide, by decide, inv_w_size (.b (ns.map .int)) k, ⟨0, none, by decide, rfl⟩, ?_, ?_⟩
            · rintro i x ρ' hx ⟨n, o, n0, rfl⟩
              refine ⟨.inr ⟨by decide, by decide⟩, by decide, fun r r0 r1 => ?_⟩
              exact ⟨n * 1000 + r, _, by omega, rfl⟩
            · rintro ρ' ⟨n, o, n0, rfl⟩
              exact h n n0
          · have e1 : ns ≠ [] := fun z => by subst z; exact e2 rfl
            have e2 : 0 < ns.length := List.length_pos_iff.mpr e1
            refine fun _ => ⟨?_, fun r r0 r1 => ?_⟩
            · show (0 : Int) < ((ns.map PyData.int).length : Nat)
              rw [List.length_map]; omega
            · rw [List.length_map] at r1
              obtain ⟨c, _, _, hc⟩ := atI_map (f := PyData.int) r0 r1
              refine ⟨_, hc, ?_⟩
              refine h _ ?_
              split <;> omega
    · exact h.elim)
/-! ## _law_same -/
-- @rec 12
/-- the same, kinds and all: n bounds the depth -/
def spn_w_same (n : Nat) : Spd := fun ws Q _ => match ws with
  | [a, b] => ∃ x y, asA a = some x ∧ asA b = some y ∧ noDict x = true ∧ noDict y = true ∧ y.depth < n ∧ Q (.d (.bool (sameB x y)))
  | _ => False
abbrev sp_w_same : Spd := spn_w_same 12
theorem void_w_same (a b : W) (Q : W → Prop) : ¬ ∃ x y, asA a = some x ∧ asA b = some y ∧ noDict x = true ∧ noDict y = true ∧ y.depth < 0 ∧ Q (.d (.bool (sameB x y))) := by
  rintro ⟨_, _, _, _, _, _, h, _⟩; omega
theorem okn_w_same (T : Txt K mg) : ∀ n, FnOk P w K mg base CX0 n T.f_w_same T.fd_w_same ["_law_actual", "_law_due"] (toSp K (spn_w_same n))
  | 0 => fnok_void fun ws Q E h => by
    unfold spn_w_same at h
    split at h
    all_goals first | exact h.elim | exact absurd h (void_w_same _ _ _)
  | n + 1 => by
   have IH := okn_w_same T n
   exact okD T.F_w_same sc_w_same (fun ws Q E h => by
    unfold spn_w_same at h
    split at h
    all_goals first | rfl | exact h.elim) (fun cdv A outer s H E Z hr =>
      (dss_cons (ds_if (dt_val (d_isi2 .tup .lst T.m_isinstance T.m_tuple (by decide +kernel) T.m_list (by decide +kernel) (dv 1)))
      (dss_cons (ds_if (dt_w (dw_or (dt_cmp (op_neD hr.units) od_ne (d_isi .tup T.m_isinstance T.m_tuple (by decide +kernel) (dv 0)) (d_isi .tup T.m_isinstance T.m_tuple (by decide +kernel) (dv 1))) (dw_or1 (dt_cmp (op_neD hr.units) od_ne (d_isi .lst T.m_isinstance T.m_list (by decide +kernel) (dv 0)) (d_isi .lst T.m_isinstance T.m_list (by decide +kernel) (dv 1))))))
      (dss_one (ds_ret d_bl))
      dss_nil)
      (dss_cons (ds_if (dt_cmp (op_neD hr.units) od_ne (d_cb call_lenX cd_len T.m_len (by decide +kernel) (da_cons (dv 0) da_nil)) (d_cb call_lenX cd_len T.m_len (by decide +kernel) (da_cons (dv 1) da_nil)))
      (dss_one (ds_ret d_bl))
      dss_nil)
      (dss_one (ds_ret (d_cmp (op_notInA hr.u65) od_notIn d_bl (d_lc (own := [("_law_k", 2)]) rfl sc_w_same.nd (di_rng1 T.m_range (da_cons (d_cb call_lenX cd_len T.m_len (by decide +kernel) (da_cons (dv 1) da_nil)) da_nil)) (blkOk_by (N := n_w_same) (sc := defScope s_w_same) (by decide +kernel)) (fun _ _ _ _ _ => (dg_name (i := 2) sc_w_same.nd)) (fun _ _ _ _ _ => dts_nil) (fun _ _ _ _ _ => (d_call IH (hr.mono (Nat.le_refl _)) T.g_w_same T.F_w_same.kp (bd_w_same T) pass0 (da_cons (d_ix (dv 0) (dv 2)) (da_cons (d_ix (dv 1) (dv 2)) da_nil))))))))))
      dss_nil)
      (dss_cons (ds_if (dt_w (dw_or (dt_cmp (op_neD hr.units) od_ne (d_isi .bool T.m_isinstance T.m_bool (by decide +kernel) (dv 0)) (d_isi .bool T.m_isinstance T.m_bool (by decide +kernel) (dv 1))) (dw_or1 (dt_cmp (op_neD hr.units) od_ne (d_isi .int T.m_isinstance T.m_int (by decide +kernel) (dv 0)) (d_isi .int T.m_isinstance T.m_int (by decide +kernel) (dv 1))))))
      (dss_one (ds_ret d_bl))
      dss_nil)
      (dss_cons (ds_if (dt_w (dw_or (dt_cmp (op_neD hr.units) od_ne (d_isi .str T.m_isinstance T.m_str (by decide +kernel) (dv 0)) (d_isi .str T.m_isinstance T.m_str (by decide +kernel) (dv 1))) (dw_or1 (dt_cmp (op_neD hr.units) od_ne (d_cmp op_isN od_isN (dv 0) d_non) (d_cmp op_isN od_isN (dv 1) d_non)))))
      (dss_one (ds_ret d_bl))
      dss_nil)
      (dss_one (ds_ret (d_cmp (op_eqD hr.units) od_eq (dv 0) (dv 1))))))))
    (fun ws Q E h => by
    unfold spn_w_same at h
    split at h
    · rename_i a b
      obtain ⟨x, y, ex, ey, nx, ny, dy, h⟩ := h
      have hF : x ≠ y → Q (.d (.bool false)) := fun e => by rw [sameB_ne e] at h; exact h
      cases b with
      | b ys =>
        cases ey
        cases a with
        | b xs =>
          cases ex
          refine fun l1 l2 => ifb (fun e => ?_) (fun e => ?_)
          · exact hF (by intro z; injection z with z; subst z; simp at e)
          · have el : xs.length = ys.length := by have e : (xs.length : Int) = ys.length := (by simpa using e); omega
            have sx : ∀ i, i < ys.length → xs.getD i .none ∈ xs := fun i hi => by
              rw [List.getD_eq_getElem?_getD, List.getElem?_eq_getElem (by omega)]; exact List.getElem_mem _
            have sy : ∀ i, i < ys.length → ys.getD i .none ∈ ys := fun i hi => by
              rw [List.getD_eq_getElem?_getD, List.getElem?_eq_getElem hi]; exact List.getElem_mem _
            refine fun l3 => ⟨by omega, by omega, fun i acc => acc = (List.range i).map (fun i => PyData.bool (sameB (xs.getD i .none) (ys.getD i .none))), rfl, fun i z acc hz ha => ?_, fun acc ha => ?_⟩
            · obtain ⟨hi, rfl⟩ := rngD_some hz
              have hi : i < ys.length := by omega
              refine ⟨_, atI_ok (by omega), _, atI_ok hi, _, _, argW_asA (noDict_ne (noDict_mem nx (sx i hi))), argW_asA (noDict_ne (noDict_mem ny (sy i hi))), noDict_mem nx (sx i hi), noDict_mem ny (sy i hi), ?_, ?_⟩
              · have := depth_mem (sy i hi)
                simp only [PyData.depth] at dy
                omega
              · show acc ++ [_] = _
                rw [List.range_succ, List.map_append, ← ha]; rfl
            · have ha' : acc = (List.range (rngD 0 (ys.length : Int).toNat).length).map (fun i => PyData.bool (sameB (xs.getD i .none) (ys.getD i .none))) := ha
              rw [rngD_len, Int.toNat_natCast] at ha'
              have e2 : acc = (((List.range ys.length).map fun i => sameB (xs.getD i .none) (ys.getD i .none)).map PyData.bool) := by rw [ha', List.map_map]; rfl
              refine ⟨trivial, ?_, ?_⟩
              · rw [e2]; unfold shAll; rw [depthAll_bools]; decide
              · show Q (.d (.bool (!inD (.bool false) acc)))
                rw [e2, notin_false, ← sameB_list el]
                exact h
        | d u => cases u <;> cases ex <;> first | exact hF (by intro e; cases e) | exact ⟨rfl, rfl, hF (by intro e; cases e)⟩
        | _ => cases ex
      | d v =>
        cases a with
        | b xs => cases ex; cases v <;> cases ey <;> first | exact hF (by intro e; cases e) | exact ⟨rfl, rfl, hF (by intro e; cases e)⟩
        | d u =>
          cases u <;> cases ex <;> cases v <;> cases ey <;> first | exact hF (by intro e; cases e) | exact ⟨rfl, rfl, hF (by intro e; cases e)⟩ | skip
          · rw [sameB_self] at h; exact ⟨rfl, rfl, trivial, trivial, h⟩
          · rw [sameB_bool] at h; exact ⟨rfl, rfl, h⟩
          · rw [sameB_int] at h; exact ⟨rfl, rfl, h⟩
          · rw [sameB_str] at h; exact ⟨rfl, rfl, h⟩
          · rename_i xs ys
            refine fun l1 l2 => ifb (fun e => ?_) (fun e => ?_)
            · exact hF (by intro z; injection z with z; subst z; simp at e)
            · have el : xs.length = ys.length := by have e : (xs.length : Int) = ys.length := (by simpa using e); omega
              have sx : ∀ i, i < ys.length → xs.getD i .none ∈ xs := fun i hi => by
                rw [List.getD_eq_getElem?_getD, List.getElem?_eq_getElem (by omega)]; exact List.getElem_mem _
              have sy : ∀ i, i < ys.length → ys.getD i .none ∈ ys := fun i hi => by
                rw [List.getD_eq_getElem?_getD, List.getElem?_eq_getElem hi]; exact List.getElem_mem _
              refine fun l3 => ⟨by omega, by omega, fun i acc => acc = (List.range i).map (fun i => PyData.bool (sameB (xs.getD i .none) (ys.getD i .none))), rfl, fun i z acc hz ha => ?_, fun acc ha => ?_⟩
              · obtain ⟨hi, rfl⟩ := rngD_some hz
                have hi : i < ys.length := by omega
                refine ⟨_, atI_ok (by omega), _, atI_ok hi, _, _, argW_asA (noDict_ne (noDict_memT nx (sx i hi))), argW_asA (noDict_ne (noDict_memT ny (sy i hi))), noDict_memT nx (sx i hi), noDict_memT ny (sy i hi), ?_, ?_⟩
                · have := depth_mem (sy i hi)
                  simp only [PyData.depth] at dy
                  omega
                · show acc ++ [_] = _
                  rw [List.range_succ, List.map_append, ← ha]; rfl
              · have ha' : acc = (List.range (rngD 0 (ys.length : Int).toNat).length).map (fun i => PyData.bool (sameB (xs.getD i .none) (ys.getD i .none))) := ha
                rw [rngD_len, Int.toNat_natCast] at ha'
                have e2 : acc = (((List.range ys.length).map fun i => sameB (xs.getD i .none) (ys.getD i .none)).map PyData.bool) := by rw [ha', List.map_map]; rfl
                refine ⟨trivial, ?_, ?_⟩
                · rw [e2]; unfold shAll; rw [depthAll_bools]; decide
                · show Q (.d (.bool (!inD (.bool false) acc)))
                  rw [e2, notin_false, ← sameB_list el, ← sameB_tuple]
                  exact h
        | _ => cases ex
      | _ => cases ey
    · exact h.elim)
theorem ok_w_same (T : Txt K mg) : FnOk P w K mg base CX0 12 T.f_w_same T.fd_w_same ["_law_actual", "_law_due"] (toSp K (spn_w_same 12)) := okn_w_same T 12
/-! ## _law_table -/
def sp_w_table : Spd := fun ws Q _ => match ws with
  | [.d (.tuple xs), .d (.str n)] => ∃ ts : List Tb, xs = ts.map tbD ∧ Q (.d (tabD (findT ts n)))
  | _ => False
def inv_w_table (ts : List Tb) (n : Str) (i : Nat) (ρ : En) : Prop := ∃ o, (∀ t ∈ ts.take i, t.n ≠ n) ∧ ρ = [some (.d (.tuple (ts.map tbD))), some (.d (.str n)), o]
theorem ok_w_table (T : Txt K mg) : FnOk P w K mg base CX0 1 T.f_w_table T.fd_w_table ["_law_schema", "_law_name"] (toSp K sp_w_table) :=
  okD T.F_w_table sc_w_table (fun ws Q E h => by
    unfold sp_w_table at h
    split at h
    all_goals first | rfl | exact h.elim) (fun cdv A outer s H E Z hr =>
      (dss_cons (ds_for rfl (di_seq (dv 0)) (dg_name (i := 2) sc_w_table.nd)
      (dss_one (ds_if (dt_cmp (op_eqD hr.units) od_eq (d_ix (dv 2) d_int) (dv 1))
      (dss_one (ds_retv 2))
      dss_nil)))
      (dss_one (ds_ret d_non))))
    (fun ws Q E h => by
    unfold sp_w_table at h
    split at h
    · rename_i n
      obtain ⟨ts, rfl, h⟩ := h
      refine ⟨inv_w_table ts n, ⟨none, (fun t m => by simp at m), rfl⟩, ?_, ?_⟩
      · rintro i x ρ' hx ⟨o, hn, rfl⟩
        obtain ⟨t, ht, rfl⟩ := map_some hx
        refine ⟨_, rfl, ifd (fun e => ?_) (fun e => ?_)⟩
        · rw [findT_at hn ht e] at h
          exact h
        · refine ⟨_, fun u m => ?_, rfl⟩
          rw [List.take_add_one, ht] at m
          rcases List.mem_append.mp m with z | z
          · exact hn u z
          · have : u = t := by simpa using z
            subst this; exact e
      · rintro ρ' ⟨o, hn, rfl⟩
        rw [List.length_map, List.take_length] at hn
        rw [findT_none hn] at h
        exact h
    · exact h.elim)
/-! ## _law_is_word -/
def sp_w_is_word : Spd := fun ws Q _ => match ws with
  | [.d (.str x)] => Q (.d (.bool (isW x)))
  | _ => False
theorem ok_w_is_word (T : Txt K mg) : FnOk P w K mg base CX0 1 T.f_w_is_word T.fd_w_is_word ["_law_text"] (toSp K sp_w_is_word) :=
  okD T.F_w_is_word sc_w_is_word (fun ws Q E h => by
    unfold sp_w_is_word at h
    split at h
    all_goals first | rfl | exact h.elim) (fun cdv A outer s H E Z hr =>
      (dss_one (ds_ret (d_and (d_cmp (op_neD hr.units) od_ne (dv 0) d_str) (d_one (d_cmp (op_eqD hr.units) od_eq (d_cb call_lenX cd_len T.m_len (by decide +kernel) (da_cons (d_lc (own := [("_law_char", 1)]) rfl sc_w_is_word.nd (di_seq (dv 0)) (blkOk_by (N := n_w_is_word) (sc := defScope s_w_is_word) (by decide +kernel)) (fun _ _ _ _ _ => (dg_name (i := 1) sc_w_is_word.nd)) (fun _ _ _ _ _ => dts_one (dt_cmp (op_notInA hr.u65) od_notIn (dv 1) d_str)) (fun _ _ _ _ _ => (dv 1))) da_nil)) d_int))))))
    (fun ws Q E h => by
    unfold sp_w_is_word at h
    split at h
    · rename_i x
      refine ifb (fun e => ?_) (fun e => ?_)
      · have e1 : x ≠ Str.ofString "" := by simpa using e
        rw [isW_of e1] at h
        refine ⟨fun i acc => acc.length = ((x.cps.toList.take i).filter (!isLow ·)).length, rfl, fun i y acc hy ha => ?_, fun acc ha => ?_⟩
        · obtain ⟨c, hc, rfl⟩ := map_some hy
          have e2 : (x.cps.toList.take (i + 1)) = x.cps.toList.take i ++ [c] := by rw [List.take_add_one, hc]; rfl
          have e3 : (!subS ⟨#[c]⟩ (Str.ofString "abcdefghijklmnopqrstuvwxyz")) = !isLow c := by rw [in_letters]
          refine ifb (fun e => ?_) (fun e => ?_)
          · show (acc ++ [chS c]).length = _
            rw [List.length_append, ha, e2, List.filter_append, List.length_append]
            have e4 : (!isLow c) = true := e3.symm.trans e
            simp [e4]
          · show acc.length = _
            rw [ha, e2, List.filter_append, List.length_append]
            have e4 : (!isLow c) = false := e3.symm.trans e
            simp [e4]
        · have ha' : acc.length = ((x.cps.toList.take (chsD x).length).filter (!isLow ·)).length := ha
          rw [show (chsD x).length = x.cps.toList.length from List.length_map .., List.take_length] at ha'
          have e5 : decide ((acc.length : Int) = 0) = x.cps.toList.all isLow := by
            rw [Bool.eq_iff_iff, decide_eq_true_eq, List.all_eq_true]
            constructor
            · intro z c hc
              have : (x.cps.toList.filter (!isLow ·)) = [] := List.length_eq_zero_iff.mp (by omega)
              have := List.filter_eq_nil_iff.mp this c hc
              simpa using this
            · intro z
              have : (x.cps.toList.filter (!isLow ·)) = [] := List.filter_eq_nil_iff.mpr fun c hc => by simp [z c hc]
              rw [this] at ha'
              simp at ha'
              simp [ha']
          rw [← e5] at h
          exact fun _ => h
      · have e1 : x = Str.ofString "" := by simpa using e
        subst e1
        rw [isW_empty] at h
        exact h
    · exact h.elim)
/-! ## _law_words -/
-- @cut 4
-- @cut 7
-- @cut 9
/-- words, all apart -/
def sp_w_words : Spd := fun ws Q _ => match ws with
  | [.drw, .d (.int m)] => 0 ≤ m ∧ m ≤ 60 ∧ ∀ xs : List Str, xs.length = m.toNat → xs.Nodup → (∀ x ∈ xs, isW x = true ∧ x.length ≤ 24 + m.toNat) → Q (.l (xs.map .str))
  | _ => False
def okW (xs : List Str) (i : Nat) : Prop := xs.length = i ∧ xs.Nodup ∧ ∀ x ∈ xs, isW x = true ∧ x.length ≤ 24 + i
def inv_w_words (m : Int) (i : Nat) (ρ : En) : Prop := ∃ (xs : List Str) (o3 o4 o5 o6 o7 : Option W), okW xs i ∧ ρ = [some .drw, some (.d (.int m)), some (.l (xs.map .str)), o3, o4, o5, o6, o7]
def m4_w_words (m : Int) (xs : List Str) (ρ : En) : Prop := ∃ (n : Int) (o3 o5 o6 o7 : Option W), 1 ≤ n ∧ n ≤ 25 ∧ ρ = [some .drw, some (.d (.int m)), some (.l (xs.map .str)), o3, some (.d (.int n)), o5, o6, o7]
def m7_w_words (m : Int) (i : Nat) (xs : List Str) (P : Str → Prop) (ρ : En) : Prop := ∃ (x : Str) (o3 o4 o6 o7 : Option W), isW x = true ∧ x.length ≤ 25 + i ∧ P x ∧ ρ = [some .drw, some (.d (.int m)), some (.l (xs.map .str)), o3, o4, some (.d (.str x)), o6, o7]
theorem okW.grow {xs : List Str} {i : Nat} {x : Str} (h : okW xs i) (h1 : isW x = true) (h2 : x.length ≤ 25 + i) (h3 : x ∉ xs) : okW (xs ++ [x]) (i + 1) := by
  obtain ⟨a, b, c⟩ := h
  refine ⟨by rw [List.length_append, a]; rfl, nodup_snoc b h3, fun y hy => ?_⟩
  rcases List.mem_append.mp hy with z | z
  · have := c y z; exact ⟨this.1, by omega⟩
  · have e : y = x := by simpa using z
    subst e; exact ⟨h1, by omega⟩
theorem ok_w_words (T : Txt K mg) : FnOk P w K mg base CX0 3 T.f_w_words T.fd_w_words ["_law_draws_here", "_law_many"] (toSp K sp_w_words) :=
  okD T.F_w_words sc_w_words (fun ws Q E h => by
    unfold sp_w_words at h
    split at h
    all_goals first | rfl | exact h.elim) (fun cdv A outer s H E Z hr =>
      (dss_cons (ds_set (i := 2) sc_w_words.nd (d_lst da_nil))
      (dss_cons (ds_for rfl (di_rng1 T.m_range (da_cons (dv 1) da_nil)) (dg_name (i := 3) sc_w_words.nd)
      (dss_cons (ds_set (i := 4) sc_w_words.nd (d_op op_addA od_add d_int (d_call (ok_w_take T) (hr.mono (by decide)) T.g_w_take T.F_w_take.kp (bd_w_take T) pass0 (da_cons (dv 0) (da_cons d_int da_nil)))))
      (dss_cut (ds_if (dt_cmp (op_eqD hr.units) od_eq (d_call (ok_w_take T) (hr.mono (by decide)) T.g_w_take T.F_w_take.kp (bd_w_take T) pass0 (da_cons (dv 0) (da_cons d_int da_nil))) d_int)
      (dss_one (ds_set (i := 4) sc_w_words.nd (d_op op_addA od_add (d_op op_addA od_add (dv 4) d_int) (d_call (ok_w_take T) (hr.mono (by decide)) T.g_w_take T.F_w_take.kp (bd_w_take T) pass0 (da_cons (dv 0) (da_cons d_int da_nil))))))
      dss_nil)
      (dss_cons (ds_set (i := 5) sc_w_words.nd (d_join d_str (d_lc (own := [("_law_j", 6)]) rfl sc_w_words.nd (di_rng1 T.m_range (da_cons (dv 4) da_nil)) (blkOk_by (N := n_w_words) (sc := defScope s_w_words) (by decide +kernel)) (fun _ _ _ _ _ => (dg_name (i := 6) sc_w_words.nd)) (fun _ _ _ _ _ => dts_nil) (fun _ _ _ _ _ => (d_ix d_str (d_call (ok_w_take T) (hr.mono (by decide)) T.g_w_take T.F_w_take.kp (bd_w_take T) pass0 (da_cons (dv 0) (da_cons d_int da_nil))))))))
      (dss_cut (ds_if (dt_w (dw_and (dt_cmp op_gt od_gt (d_cb call_lenX cd_len T.m_len (by decide +kernel) (da_cons (dv 2) da_nil)) d_int) (dw_and1 (dt_cmp (op_eqD hr.units) od_eq (d_call (ok_w_take T) (hr.mono (by decide)) T.g_w_take T.F_w_take.kp (bd_w_take T) pass0 (da_cons (dv 0) (da_cons d_int da_nil))) d_int))))
      (dss_one (ds_set (i := 5) sc_w_words.nd (d_op op_addA od_add (d_call (ok_w_pick T) (hr.mono (by decide)) T.g_w_pick T.F_w_pick.kp (bd_w_pick T) pass0 (da_cons (dv 0) (da_cons (dv 2) da_nil))) (d_ix d_str (d_call (ok_w_take T) (hr.mono (by decide)) T.g_w_take T.F_w_take.kp (bd_w_take T) pass0 (da_cons (dv 0) (da_cons d_int da_nil)))))))
      dss_nil)
      (dss_cut (ds_if (dt_cmp (op_inA hr.u65) od_in (dv 5) (dv 2))
      (dss_one (ds_set (i := 5) sc_w_words.nd (d_op op_mulA od_mulA d_str (d_op op_addA od_add d_int (d_cb (cr_max rfl) cd_max T.m_max (by decide +kernel) (da_cons (d_lc (own := [("_law_other", 7)]) rfl sc_w_words.nd (di_seq (dv 2)) (blkOk_by (N := n_w_words) (sc := defScope s_w_words) (by decide +kernel)) (fun _ _ _ _ _ => (dg_name (i := 7) sc_w_words.nd)) (fun _ _ _ _ _ => dts_nil) (fun _ _ _ _ _ => (d_cb call_lenX cd_len T.m_len (by decide +kernel) (da_cons (dv 7) da_nil)))) da_nil))))))
      dss_nil)
      (dss_one (ds_app 2 (dv 5)))))))))
      (dss_one (ds_retv 2)))))
    (fun ws Q E h => by
    unfold sp_w_words at h
    split at h
    · rename_i m
      obtain ⟨m0, m1, h⟩ := h
      refine ⟨by omega, by omega, inv_w_words m, ⟨[], _, _, _, _, _, ⟨rfl, .nil, fun x hx => by cases hx⟩, rfl⟩, ?_, ?_⟩
      · rintro i z ρ' hz ⟨xs, o3, o4, o5, o6, o7, ok, rfl⟩
        obtain ⟨hi, rfl⟩ := rngD_some hz
        refine ⟨by decide, fun r1 r10 r11 => ⟨m4_w_words m xs, ⟨by decide, fun r2 r20 r21 => ?_⟩, ?_⟩⟩
        · refine ifd (fun e => ?_) (fun e => ?_)
          · refine ⟨by decide, fun r3 r30 r31 => ?_⟩
            exact ⟨_, _, _, _, _, by omega, by omega, rfl⟩
          · exact ⟨_, _, _, _, _, by omega, by omega, rfl⟩
        · rintro ρ' ⟨n, o3, o5, o6, o7, n1, n2, rfl⟩
          refine ⟨trivial, by omega, by omega, fun j acc => ∃ cs : List Nat, cs.length = j ∧ (∀ c ∈ cs, isLow c = true) ∧ acc = cs.map chS, ⟨[], rfl, (fun c hc => by cases hc), rfl⟩, ?_, ?_⟩
          · rintro j z acc hz ⟨cs, hl, hc, rfl⟩
            refine ⟨by decide, fun r4 r40 r41 => ?_⟩
            obtain ⟨c, c1, c2⟩ := letter_at r40 r41
            refine ⟨c, c1, cs ++ [c], by rw [List.length_append, hl]; rfl, fun d hd => ?_, by rw [List.map_append]; rfl⟩
            rcases List.mem_append.mp hd with z | z
            · exact hc d z
            · have e : d = c := by simpa using z
              subst e; exact c2
          · rintro acc ⟨cs, hl, hc, rfl⟩
            rw [rngD_len] at hl
            have cs0 : cs ≠ [] := fun e => by subst e; simp at hl; omega
            obtain ⟨j1, j2⟩ := join0 cs0 hc
            refine ⟨_, cs.map (fun c => (⟨#[c]⟩ : Str)), rfl, by rw [List.map_map]; rfl, ?_, m7_w_words m i xs (fun _ => True), ?_, ?_⟩
            · rw [sum_ones, List.length_map, show (Str.ofString "").length = 0 from by decide]; omega
            · have same : m7_w_words m i xs (fun _ => True) [some .drw, some (.d (.int m)), some (.l (xs.map .str)), o3, some (.d (.int n)), some (.d (.str (Txt.join (Str.ofString "") (cs.map (fun c => (⟨#[c]⟩ : Str)))))), o6, o7] :=
                ⟨_, _, _, _, _, j1, by rw [j2]; omega, trivial, rfl⟩
              refine fun _ => ifd (fun e1 => ⟨by decide, fun r5 _ _ => ifd (fun e2 => ?_) (fun e2 => ?_)⟩) (fun e1 => ?_)
              · rw [List.length_map] at e1
                refine ⟨_, rfl, by rw [List.length_map]; omega, fun y hy => ?_⟩
                obtain ⟨y, hy2, rfl⟩ := List.mem_map.mp hy
                refine ⟨by decide, fun r6 r60 r61 => ?_⟩
                obtain ⟨c, c1, c2⟩ := letter_at r60 r61
                have := ok.2.2 y hy2
                have l1 : (⟨#[c]⟩ : Str).length = 1 := rfl
                have l2 : (y ++ (⟨#[c]⟩ : Str)).length = y.length + 1 := Array.size_append ..
                refine ⟨c, c1, by rw [l1, sizeLine_eq]; omega, y ++ ⟨#[c]⟩, _, _, _, _, isW_append this.1 (fun d hd => ?_), by omega, trivial, rfl⟩
                have e : d = c := by simpa using hd
                subst e; exact c2
              · exact same
              · exact same
            · rintro ρ' ⟨x, o3, o4, o6, o7, x1, x2, _, rfl⟩
              refine ⟨m7_w_words m i xs (· ∉ xs), ⟨trivial, by unfold shAll; rw [depthAll_strs]; decide, ifb (fun e => ?_) (fun e => ?_)⟩, ?_⟩
              · replace e : inD (.str x) (xs.map .str) = true := e
                rw [inD_str, decide_eq_true_eq] at e
                refine ⟨fun j acc => acc = (xs.take j).map (fun y => PyData.int y.length), rfl, fun j y acc hy ha => ?_, fun acc ha => ?_⟩
                · obtain ⟨y, hy2, rfl⟩ := map_some hy
                  intro _
                  show acc ++ [PyData.int y.length] = (xs.take (j + 1)).map (fun y => PyData.int y.length)
                  rw [take_succ_map hy2, ← ha]
                · have ha' : acc = (xs.take (xs.map PyData.str).length).map (fun y => PyData.int y.length) := ha
                  rw [List.length_map, List.take_length] at ha'
                  refine ⟨acc, xs.map (fun y => (y.length : Int)), rfl, by rw [ha', List.map_map]; rfl, ?_, fun mx hm hall => ?_⟩
                  · rw [List.length_map]; exact List.length_pos_of_mem e
                  · obtain ⟨y, hy, rfl⟩ := List.mem_map.mp hm
                    have b := (ok.2.2 y hy).2
                    obtain ⟨z1, z2⟩ := z_word (n := 1 + (y.length : Int)) (by omega)
                    refine ⟨by omega, by omega, by decide, _, _, _, _, _, z1, by rw [z2]; omega, fun hin => ?_, rfl⟩
                    have := hall _ (List.mem_map.mpr ⟨_, hin, rfl⟩)
                    rw [z2] at this
                    omega
              · replace e : inD (.str x) (xs.map .str) = false := e
                rw [inD_str, decide_eq_false_iff_not] at e
                exact ⟨_, _, _, _, _, x1, x2, e, rfl⟩
              · rintro ρ' ⟨x, o3, o4, o6, o7, x1, x2, nx, rfl⟩
                refine ⟨by rw [List.length_map, ok.1, sizeLine_eq]; omega, xs ++ [x], _, _, _, _, _, ok.grow x1 x2 nx, by rw [List.map_append]; rfl⟩
      · rintro ρ' ⟨xs, o3, o4, o5, o6, o7, ok, rfl⟩
        rw [rngD_len] at ok
        exact h xs ok.1 ok.2.1 ok.2.2
    · exact h.elim)
/-! ## _law_strange -/
/-- another text -/
def sp_w_strange : Spd := fun ws Q _ => match ws with
  | [.drw, .d (.str x)] => x.length ≤ 10000 ∧ ∀ y : Str, y.length ≤ 2 * x.length + 1 → Q (.d (.str y))
  | _ => False
def signs_w_strange : List Str := [Str.ofString " ", Str.ofString "A", Str.ofString "Z", Str.ofString "0", Str.ofString "9", Str.ofString "_", Str.ofString "-", Str.ofString "(", Str.ofString "|", Str.ofString "~", Str.ofString "{", Str.ofString "`", Str.ofString "@", Str.ofString "[", Str.ofString "\n"]
theorem signs_len : ∀ s ∈ signs_w_strange, s.length = 1 := by decide +kernel
theorem ok_w_strange (T : Txt K mg) : FnOk P w K mg base CX0 3 T.f_w_strange T.fd_w_strange ["_law_draws_here", "_law_word"] (toSp K sp_w_strange) :=
  okD T.F_w_strange sc_w_strange (fun ws Q E h => by
    unfold sp_w_strange at h
    split at h
    all_goals first | rfl | exact h.elim) (fun cdv A outer s H E Z hr =>
      (dss_cons (ds_set (i := 2) sc_w_strange.nd (d_call (ok_w_pick T) (hr.mono (by decide)) T.g_w_pick T.F_w_pick.kp (bd_w_pick T) pass0 (da_cons (dv 0) (da_cons (d_lst (da_cons d_str (da_cons d_str (da_cons d_str (da_cons d_str (da_cons d_str (da_cons d_str (da_cons d_str (da_cons d_str (da_cons d_str (da_cons d_str (da_cons d_str (da_cons d_str (da_cons d_str (da_cons d_str (da_cons d_str da_nil)))))))))))))))) da_nil))))
      (dss_cons (ds_set (i := 3) sc_w_strange.nd (d_call (ok_w_take T) (hr.mono (by decide)) T.g_w_take T.F_w_take.kp (bd_w_take T) pass0 (da_cons (dv 0) (da_cons (d_op op_addA od_add (d_cb call_lenX cd_len T.m_len (by decide +kernel) (da_cons (dv 1) da_nil)) d_int) da_nil))))
      (dss_one (ds_ret (d_ix (d_lst (da_cons d_str (da_cons (d_op op_addA od_add (d_op op_addA od_add (d_slice (dv 1) do_none (do_some (dv 3))) (dv 2)) (d_slice (dv 1) (do_some (dv 3)) do_none)) da_nil))) (d_cty call_int1 cd_int T.m_int (by decide +kernel) (da_cons (d_cmp op_gt od_gt (d_call (ok_w_take T) (hr.mono (by decide)) T.g_w_take T.F_w_take.kp (bd_w_take T) pass0 (da_cons (dv 0) (da_cons d_int da_nil))) d_int) da_nil))))))))
    (fun ws Q E h => by
    unfold sp_w_strange at h
    split at h
    · rename_i x
      obtain ⟨xl, h⟩ := h
      refine ⟨signs_w_strange.map .str, rfl, by decide, fun y hy => ?_⟩
      obtain ⟨s, hs, rfl⟩ := List.mem_map.mp hy
      have s1 := signs_len s hs
      refine fun _ => ⟨by omega, fun k k0 k1 => ?_⟩
      have c1 := cutS_length x none (some k)
      have c2 := cutS_length x (some k) none
      have l1 : (cutS x none (some k) ++ s).length = (cutS x none (some k)).length + s.length := Array.size_append ..
      have l2 : (cutS x none (some k) ++ s ++ cutS x (some k) none).length = (cutS x none (some k) ++ s).length + (cutS x (some k) none).length := Array.size_append ..
      refine ⟨by rw [sizeLine_eq]; omega, by rw [sizeLine_eq]; omega, by decide, fun r r0 r1 => ?_⟩
      have key : ∀ b : Bool, ∃ d, atI [PyData.str (Str.ofString ""), PyData.str (cutS x none (some k) ++ s ++ cutS x (some k) none)] (if b then 1 else 0) = some d ∧ Q (.d d) := fun b => by
        cases b with
        | false => exact ⟨_, rfl, h _ (by rw [show (Str.ofString "").length = 0 from by decide]; omega)⟩
        | true => exact ⟨_, rfl, h _ (by omega)⟩
      exact key (decide (r > 0))
    · exact h.elim)
/-! ## _law_any_value -/
/-- a text of the list, or an int -/
def sp_w_any_value : Spd := fun ws Q _ => match ws with
  | [.drw, .b xs, w] => ∃ (ns : List Int) (ts : List Str), xs = ns.map .int ∧ ns.length ≤ 63 ∧ asQ w = some (ts.map .str) ∧ 0 < ts.length ∧ (∀ i : Int, Q (.d (.int i))) ∧ ∀ t ∈ ts, Q (.d (.str t))
  | _ => False
theorem asQ_arg {w : W} {xs : List PyData} (h : asQ w = some xs) : asQ (argW (rd w)) = some xs := by
  cases w with
  | d y => cases y <;> first | exact h | cases h
  | _ => first | exact h | cases h
theorem ok_w_any_value (T : Txt K mg) : FnOk P w K mg base CX0 3 T.f_w_any_value T.fd_w_any_value ["_law_draws_here", "_law_script", "_law_words_here"] (toSp K sp_w_any_value) :=
  okD T.F_w_any_value sc_w_any_value (fun ws Q E h => by
    unfold sp_w_any_value at h
    split at h
    all_goals first | rfl | exact h.elim) (fun cdv A outer s H E Z hr =>
      (dss_cons (ds_if (dt_cmp (op_eqD hr.units) od_eq (d_call (ok_w_take T) (hr.mono (by decide)) T.g_w_take T.F_w_take.kp (bd_w_take T) pass0 (da_cons (dv 0) (da_cons d_int da_nil))) d_int)
      (dss_one (ds_ret (d_call (ok_w_pick T) (hr.mono (by decide)) T.g_w_pick T.F_w_pick.kp (bd_w_pick T) pass0 (da_cons (dv 0) (da_cons (dv 2) da_nil)))))
      dss_nil)
      (dss_one (ds_ret (d_op op_mulA od_mulA (d_call (ok_w_size T) (hr.mono (by decide)) T.g_w_size T.F_w_size.kp (bd_w_size T) pass0 (da_cons (dv 0) (da_cons (dv 1) da_nil))) (d_op op_sub od_sub d_int (d_op op_mulA od_mulA d_int (d_call (ok_w_take T) (hr.mono (by decide)) T.g_w_take T.F_w_take.kp (bd_w_take T) pass0 (da_cons (dv 0) (da_cons d_int da_nil))))))))))
    (fun ws Q E h => by
    unfold sp_w_any_value at h
    split at h
    · rename_i x
      obtain ⟨ns, ts, rfl, hl, hq, h0, h1, h2⟩ := h
      refine ⟨by decide, fun r r0 r1 => ifd (fun e => ?_) (fun e => ?_)⟩
      · refine ⟨_, asQ_arg hq, by rw [List.length_map]; exact h0, fun y hy => ?_⟩
        obtain ⟨t, ht, rfl⟩ := List.mem_map.mp hy
        exact h2 t ht
      · refine ⟨ns, rfl, hl, fun i i0 => ⟨by decide, fun r2 r20 r21 => ⟨?_, ?_, h1 _⟩⟩⟩
        · exact .inl ⟨by decide, by decide⟩
        · exact .inr ⟨by omega, by omega⟩
    · exact h.elim)
/-! ## _law_any_schema -/
-- @cut 2
/-- a schema -/
def sp_w_any_schema : Spd := fun ws Q _ => match ws with
  | [.drw, .b xs] => ∃ ns : List Str, xs = ns.map .str ∧ ns.Nodup ∧ (∀ n ∈ ns, isW n = true) ∧ ∀ ts, SchOk ts → (∀ t ∈ ts, t.n ∈ ns) → Q (.d (.tuple (ts.map tbD)))
  | _ => False
def m2_w_any_schema (ns : List Str) (ρ : En) : Prop := ∃ k : Nat, k ≤ 20 ∧ ρ = [some .drw, some (.b (ns.map .str)), some (.d (.int k)), none, none, none, none]
def inv_w_any_schema (ns zs : List Str) (k : Int) (i : Nat) (ρ : En) : Prop := ∃ (ts : List Tb) (o4 o5 o6 : Option W), ts.map Tb.n = zs.take i ∧ (∀ t ∈ ts, t.k + t.r ≤ 8) ∧ ρ = [some .drw, some (.b (ns.map .str)), some (.d (.int k)), some (.l (ts.map tbD)), o4, o5, o6]
theorem tbD_grown {ts : List Tb} {zs : List Str} {i : Nat} {z : Str} (h : ts.map Tb.n = zs.take i) (h2 : ∀ t ∈ ts, t.k + t.r ≤ 8) (hz : zs[i]? = some z) {a b : Int} (a0 : 0 ≤ a) (b0 : 0 ≤ b) (ab : a + b ≤ 8) :
    ∃ us : List Tb, us.map Tb.n = zs.take (i + 1) ∧ (∀ t ∈ us, t.k + t.r ≤ 8) ∧ us.map tbD = ts.map tbD ++ [.tuple [.str z, .int a, .int b]] := by
  refine ⟨ts ++ [⟨z, a.toNat, b.toNat⟩], ?_, fun t ht => ?_, ?_⟩
  · rw [List.map_append, h, List.take_add_one, hz]; rfl
  · rcases List.mem_append.mp ht with m | m
    · exact h2 t m
    · have : t = ⟨z, a.toNat, b.toNat⟩ := by simpa using m
      subst this
      show a.toNat + b.toNat ≤ 8
      omega
  · rw [List.map_append]
    show ts.map tbD ++ [.tuple [.str z, .int (a.toNat : Int), .int (b.toNat : Int)]] = _
    rw [Int.toNat_of_nonneg a0, Int.toNat_of_nonneg b0]
theorem ok_w_any_schema (T : Txt K mg) : FnOk P w K mg base CX0 2 T.f_w_any_schema T.fd_w_any_schema ["_law_draws_here", "_law_words_here"] (toSp K sp_w_any_schema) :=
  okD T.F_w_any_schema sc_w_any_schema (fun ws Q E h => by
    unfold sp_w_any_schema at h
    split at h
    all_goals first | rfl | exact h.elim) (fun cdv A outer s H E Z hr =>
      (dss_cons (ds_set (i := 2) sc_w_any_schema.nd (d_op op_addA od_add d_int (d_call (ok_w_take T) (hr.mono (by decide)) T.g_w_take T.F_w_take.kp (bd_w_take T) pass0 (da_cons (dv 0) (da_cons d_int da_nil)))))
      (dss_cut (ds_if (dt_cmp (op_eqD hr.units) od_eq (d_call (ok_w_take T) (hr.mono (by decide)) T.g_w_take T.F_w_take.kp (bd_w_take T) pass0 (da_cons (dv 0) (da_cons d_int da_nil))) d_int)
      (dss_one (ds_set (i := 2) sc_w_any_schema.nd (d_call (ok_w_take T) (hr.mono (by decide)) T.g_w_take T.F_w_take.kp (bd_w_take T) pass0 (da_cons (dv 0) (da_cons d_int da_nil)))))
      dss_nil)
      (dss_cons (ds_set (i := 3) sc_w_any_schema.nd (d_lst da_nil))
      (dss_cons (ds_for rfl (di_seq (d_cb cr_sortedS cd_sort T.m_sorted (by decide +kernel) (da_cons (d_slice (dv 1) do_none (do_some (dv 2))) da_nil))) (dg_name (i := 4) sc_w_any_schema.nd)
      (dss_cons (ds_set (i := 5) sc_w_any_schema.nd (d_call (ok_w_take T) (hr.mono (by decide)) T.g_w_take T.F_w_take.kp (bd_w_take T) pass0 (da_cons (dv 0) (da_cons d_int da_nil))))
      (dss_cons (ds_set (i := 6) sc_w_any_schema.nd (d_call (ok_w_take T) (hr.mono (by decide)) T.g_w_take T.F_w_take.kp (bd_w_take T) pass0 (da_cons (dv 0) (da_cons d_int da_nil))))
      (dss_cons (ds_if (dt_cmp (op_eqD hr.units) od_eq (d_call (ok_w_take T) (hr.mono (by decide)) T.g_w_take T.F_w_take.kp (bd_w_take T) pass0 (da_cons (dv 0) (da_cons d_int da_nil))) d_int)
      (dss_cons (ds_set (i := 5) sc_w_any_schema.nd (d_call (ok_w_take T) (hr.mono (by decide)) T.g_w_take T.F_w_take.kp (bd_w_take T) pass0 (da_cons (dv 0) (da_cons d_int da_nil))))
      (dss_one (ds_set (i := 6) sc_w_any_schema.nd (d_op op_sub od_sub d_int (dv 5)))))
      dss_nil)
      (dss_one (ds_app 3 (d_tup (da_cons (dv 4) (da_cons (dv 5) (da_cons (dv 6) da_nil))))))))))
      (dss_one (ds_ret (d_cty call_tuple_of cd_tuple T.m_tuple (by decide +kernel) (da_cons (dv 3) da_nil)))))))))
    (fun ws Q E h => by
    unfold sp_w_any_schema at h
    split at h
    · obtain ⟨ns, rfl, nd, wd, h⟩ := h
      have mk : ∀ j : Int, 0 ≤ j → j ≤ 20 → m2_w_any_schema ns [some .drw, some (.b (ns.map .str)), some (.d (.int j)), none, none, none, none] := fun j j0 j1 =>
        ⟨j.toNat, by omega, by rw [Int.toNat_of_nonneg j0]⟩
      refine ⟨by decide, fun r0 r00 r01 => ⟨m2_w_any_schema ns, ⟨by decide, fun r1 r10 r11 => ifd (fun e => ?_) (fun e => ?_)⟩, ?_⟩⟩
      · exact ⟨by decide, fun r2 r20 r21 => mk _ (by omega) (by omega)⟩
      · exact mk _ (by omega) (by omega)
      · rintro ρ' ⟨k, k20, rfl⟩
        have ec : DL.cutD (ns.map PyData.str) none (some (k : Int)) = (ns.take k).map .str := by rw [cutD_take, List.map_take]
        refine ⟨_, ns.take k, rfl, ec, by rw [List.length_take]; omega, fun zs hp hs => ?_⟩
        refine ⟨inv_w_any_schema ns zs k, ⟨[], none, none, none, rfl, (fun t m => by cases m), rfl⟩, ?_, ?_⟩
        · rintro i x ρ' hx ⟨ts, o4, o5, o6, en, e8, rfl⟩
          obtain ⟨z, hz, rfl⟩ := map_some hx
          have hl : (ts.map tbD).length < sizeLine := by
            have h1 := congrArg List.length en
            have h2 := hp.length_eq
            rw [List.length_map, List.length_take] at h1
            rw [List.length_take] at h2
            rw [List.length_map, sizeLine_eq]
            omega
          refine ⟨by decide, fun a a0 a1 => ⟨by decide, fun b b0 b1 => ⟨by decide, fun c c0 c1 => ifd (fun e => ?_) (fun e => ?_)⟩⟩⟩
          · refine ⟨by decide, fun d d0 d1 => ⟨hl, ?_⟩⟩
            obtain ⟨us, u1, u2, u3⟩ := tbD_grown en e8 hz d0 (show (0 : Int) ≤ 8 - d by omega) (by omega)
            exact ⟨us, _, _, _, u1, u2, by rw [u3]; rfl⟩
          · refine ⟨hl, ?_⟩
            obtain ⟨us, u1, u2, u3⟩ := tbD_grown en e8 hz a0 b0 (by omega)
            exact ⟨us, _, _, _, u1, u2, by rw [u3]; rfl⟩
        · rintro ρ' ⟨ts, o4, o5, o6, en, e8, rfl⟩
          rw [List.length_map, List.take_length] at en
          have nn : ∀ t ∈ ts, t.n ∈ ns := fun t m => by
            have : t.n ∈ zs := en ▸ List.mem_map.mpr ⟨t, m, rfl⟩
            exact List.mem_of_mem_take (hp.mem_iff.mp this)
          refine h ts ⟨?_, ?_, ?_, fun t m => ⟨wd _ (nn t m), e8 t m⟩⟩ nn
          · have h1 := congrArg List.length en
            have h2 := hp.length_eq
            rw [List.length_map] at h1
            rw [List.length_take] at h2
            omega
          · rw [en]; exact hp.nodup_iff.mpr (nd.sublist (List.take_sublist ..))
          · rw [en]; exact hs
    · exact h.elim)
/-! ## _law_is_fact -/
def sp_w_is_fact : Spd := fun ws Q _ => match ws with
  | [.d (.tuple xs), .d (.str n), .d (.tuple row)] => ∃ ts : List Tb, xs = ts.map tbD ∧ row.all isIS = true ∧ Q (.d (.bool (isF ts n row)))
  | _ => False
def badV (y : PyData) : Bool := !isV y
theorem ok_w_is_fact (T : Txt K mg) : FnOk P w K mg base CX0 2 T.f_w_is_fact T.fd_w_is_fact ["_law_schema", "_law_name", "_law_row"] (toSp K sp_w_is_fact) :=
  okD T.F_w_is_fact sc_w_is_fact (fun ws Q E h => by
    unfold sp_w_is_fact at h
    split at h
    all_goals first | rfl | exact h.elim) (fun cdv A outer s H E Z hr =>
      (dss_cons (ds_set (i := 3) sc_w_is_fact.nd (d_call (ok_w_table T) (hr.mono (by decide)) T.g_w_table T.F_w_table.kp (bd_w_table T) pass0 (da_cons (dv 0) (da_cons (dv 1) da_nil))))
      (dss_cons (ds_if (dt_w (dw_or (dt_cmp op_isN od_isN (dv 3) d_non) (dw_or1 (dt_cmp (op_neD hr.units) od_ne (d_cb call_lenX cd_len T.m_len (by decide +kernel) (da_cons (dv 2) da_nil)) (d_op op_addA od_add (d_ix (dv 3) d_int) (d_ix (dv 3) d_int))))))
      (dss_one (ds_ret d_bl))
      dss_nil)
      (dss_one (ds_ret (d_cmp (op_eqD hr.units) od_eq (d_cb call_lenX cd_len T.m_len (by decide +kernel) (da_cons (d_lc (own := [("_law_value", 4)]) rfl sc_w_is_fact.nd (di_seq (dv 2)) (blkOk_by (N := n_w_is_fact) (sc := defScope s_w_is_fact) (by decide +kernel)) (fun _ _ _ _ _ => (dg_name (i := 4) sc_w_is_fact.nd)) (fun _ _ _ _ _ => dts_one (dt_w (dw_and (dt_val (d_isi .str T.m_isinstance T.m_str (by decide +kernel) (dv 4))) (dw_and1 (dt_not (dt_val (d_call (ok_w_is_word T) (hr.mono (by decide)) T.g_w_is_word T.F_w_is_word.kp (bd_w_is_word T) pass0 (da_cons (dv 4) da_nil)))))))) (fun _ _ _ _ _ => (dv 4))) da_nil)) d_int))))))
    (fun ws Q E h => by
    unfold sp_w_is_fact at h
    split at h
    · rename_i n row
      obtain ⟨ts, rfl, hi, h⟩ := h
      refine ⟨ts, rfl, ?_⟩
      unfold isF at h
      cases e : findT ts n with
      | none =>
        rw [e] at h
        exact ⟨rfl, h⟩
      | some t =>
        rw [e] at h
        replace h : Q (.d (.bool (decide (row.length = t.k + t.r) && row.all isV))) := h
        refine ⟨rfl, fun _ => ⟨_, rfl, _, rfl, ifb (fun e2 => ?_) (fun e2 => ?_)⟩⟩
        · have e3 : ¬ row.length = t.k + t.r := by
            have : ¬ (row.length : Int) = (t.k : Int) + t.r := by simpa using e2
            omega
          rw [decide_eq_false e3] at h
          exact h
        · have e3 : row.length = t.k + t.r := by
            have : (row.length : Int) = (t.k : Int) + t.r := by simpa using e2
            omega
          rw [decide_eq_true e3] at h
          refine ⟨fun j acc => acc = (row.take j).filter badV, rfl, fun j y acc hy ha => ?_, fun acc ha => ?_⟩
          · have hy2 := List.all_eq_true.mp hi y (List.mem_of_getElem? hy)
            cases y with
            | int i => 
              show acc = _
              rw [filter_neg hy rfl]; exact ha
            | str x =>
              refine ifb (fun e4 => ?_) (fun e4 => ?_)
              · show acc ++ [PyData.str x] = _
                rw [filter_pos hy e4, ← ha]
              · show acc = _
                rw [filter_neg hy e4]; exact ha
            | _ => cases hy2
          · have ha' : acc = (row.take row.length).filter badV := ha
            rw [List.take_length] at ha'
            intro _
            have e5 : decide ((acc.length : Int) = 0) = row.all isV := by
              rw [Bool.eq_iff_iff, decide_eq_true_eq, List.all_eq_true, ha']
              constructor
              · intro z y hy
                have : row.filter badV = [] := List.length_eq_zero_iff.mp (by omega)
                have := List.filter_eq_nil_iff.mp this y hy
                simpa [badV] using this
              · intro z
                have : row.filter badV = [] := List.filter_eq_nil_iff.mpr fun y hy => by simp [badV, z y hy]
                rw [this]; rfl
            rw [← e5] at h
            exact h
    · exact h.elim)
/-! ## _law_rekeyed -/
-- @cut 4
def nw (t : Tb) : Str × Nat := (t.n, t.k + t.r)
/-- the same tables with other keys -/
def sp_w_rekeyed : Spd := fun ws Q _ => match ws with
  | [.drw, .d (.tuple xs)] => ∃ ts : List Tb, xs = ts.map tbD ∧ SchOk ts ∧ ∀ us, SchOk us → us.map nw = ts.map nw → Q (.d (.tuple (us.map tbD)))
  | _ => False
def inv_w_rekeyed (ts : List Tb) (i : Nat) (ρ : En) : Prop := ∃ (us : List Tb) (o3 o4 : Option W), us.map nw = (ts.take i).map nw ∧ ρ = [some .drw, some (.d (.tuple (ts.map tbD))), some (.l (us.map tbD)), o3, o4]
def m4_w_rekeyed (ts us : List Tb) (t : Tb) (ρ : En) : Prop := ∃ j : Int, 0 ≤ (t.k : Int) + j ∧ 0 ≤ (t.r : Int) - j ∧ ρ = [some .drw, some (.d (.tuple (ts.map tbD))), some (.l (us.map tbD)), some (.d (tbD t)), some (.d (.int j))]
theorem nw_names {us ts : List Tb} (h : us.map nw = ts.map nw) : us.map Tb.n = ts.map Tb.n := by
  have := congrArg (List.map Prod.fst) h
  rw [List.map_map, List.map_map] at this
  exact this
theorem nw_ok {us ts : List Tb} (h : us.map nw = ts.map nw) (so : SchOk ts) : SchOk us where
  few := by
    have := congrArg List.length h
    rw [List.length_map, List.length_map] at this
    rw [this]; exact so.few
  nd := by rw [nw_names h]; exact so.nd
  srt := by rw [nw_names h]; exact so.srt
  wd t ht := by
    have : nw t ∈ ts.map nw := h ▸ List.mem_map.mpr ⟨t, ht, rfl⟩
    obtain ⟨u, hu, e⟩ := List.mem_map.mp this
    have e1 : u.n = t.n := congrArg Prod.fst e
    have e2 : u.k + u.r = t.k + t.r := congrArg Prod.snd e
    rw [← e1, ← e2]
    exact so.wd u hu
theorem ok_w_rekeyed (T : Txt K mg) : FnOk P w K mg base CX0 2 T.f_w_rekeyed T.fd_w_rekeyed ["_law_draws_here", "_law_schema"] (toSp K sp_w_rekeyed) :=
  okD T.F_w_rekeyed sc_w_rekeyed (fun ws Q E h => by
    unfold sp_w_rekeyed at h
    split at h
    all_goals first | rfl | exact h.elim) (fun cdv A outer s H E Z hr =>
      (dss_cons (ds_set (i := 2) sc_w_rekeyed.nd (d_lst da_nil))
      (dss_cons (ds_for rfl (di_seq (dv 1)) (dg_name (i := 3) sc_w_rekeyed.nd)
      (dss_cons (ds_set (i := 4) sc_w_rekeyed.nd (d_op op_sub od_sub (d_call (ok_w_take T) (hr.mono (by decide)) T.g_w_take T.F_w_take.kp (bd_w_take T) pass0 (da_cons (dv 0) (da_cons d_int da_nil))) d_int))
      (dss_cut (ds_if (dt_w (dw_or (dt_cmp op_lt od_lt (d_op op_addA od_add (d_ix (dv 3) d_int) (dv 4)) d_int) (dw_or1 (dt_cmp op_lt od_lt (d_op op_sub od_sub (d_ix (dv 3) d_int) (dv 4)) d_int))))
      (dss_one (ds_set (i := 4) sc_w_rekeyed.nd d_int))
      dss_nil)
      (dss_one (ds_app 2 (d_tup (da_cons (d_ix (dv 3) d_int) (da_cons (d_op op_addA od_add (d_ix (dv 3) d_int) (dv 4)) (da_cons (d_op op_sub od_sub (d_ix (dv 3) d_int) (dv 4)) da_nil)))))))))
      (dss_one (ds_ret (d_cty call_tuple_of cd_tuple T.m_tuple (by decide +kernel) (da_cons (dv 2) da_nil)))))))
    (fun ws Q E h => by
    unfold sp_w_rekeyed at h
    split at h
    · obtain ⟨ts, rfl, so, h⟩ := h
      refine ⟨inv_w_rekeyed ts, ⟨[], none, none, rfl, rfl⟩, ?_, ?_⟩
      · rintro i x ρ' hx ⟨us, o3, o4, hu, rfl⟩
        obtain ⟨t, ht, rfl⟩ := map_some hx
        refine ⟨by decide, fun r r0 r1 => ⟨m4_w_rekeyed ts us t, ?_, ?_⟩⟩
        · refine ⟨_, rfl, ifd (fun e => ?_) (fun e => ⟨_, rfl, ifd (fun e2 => ?_) (fun e2 => ?_)⟩)⟩
          · exact ⟨0, by omega, by omega, rfl⟩
          · exact ⟨0, by omega, by omega, rfl⟩
          · exact ⟨r - 1, by omega, by omega, rfl⟩
        · rintro ρ' ⟨j, j0, j1, rfl⟩
          have t8 := (so.wd t (List.mem_of_getElem? ht)).2
          have ul : us.length ≤ i := by
            have := congrArg List.length hu
            rw [List.length_map, List.length_map, List.length_take] at this
            omega
          have il : i < 20 := by
            have := (List.getElem?_eq_some_iff.mp ht).1
            have := so.few
            omega
          refine ⟨_, rfl, _, rfl, _, rfl, by rw [List.length_map, sizeLine_eq]; omega, us ++ [⟨t.n, ((t.k : Int) + j).toNat, ((t.r : Int) - j).toNat⟩], some (.d (tbD t)), some (.d (.int j)), ?_, ?_⟩
          · rw [List.map_append, hu, List.take_add_one, ht, List.map_append]
            show _ ++ [(t.n, ((t.k : Int) + j).toNat + ((t.r : Int) - j).toNat)] = _ ++ [(t.n, t.k + t.r)]
            rw [show ((t.k : Int) + j).toNat + ((t.r : Int) - j).toNat = t.k + t.r by omega]
          · have e : (us ++ [(⟨t.n, ((t.k : Int) + j).toNat, ((t.r : Int) - j).toNat⟩ : Tb)]).map tbD = us.map tbD ++ [.tuple [.str t.n, .int ((t.k : Int) + j), .int ((t.r : Int) - j)]] := by
              rw [List.map_append]
              show us.map tbD ++ [.tuple [.str t.n, .int (((t.k : Int) + j).toNat : Int), .int (((t.r : Int) - j).toNat : Int)]] = _
              rw [Int.toNat_of_nonneg j0, Int.toNat_of_nonneg j1]
            exact congrArg (fun z => [some W.drw, some (.d (.tuple (ts.map tbD))), some (.l z), some (.d (tbD t)), some (.d (.int j))]) e.symm
      · rintro ρ' ⟨us, o3, o4, hu, rfl⟩
        rw [List.length_map, List.take_length] at hu
        exact h us (nw_ok hu so) hu
    · exact h.elim)
/-! ## _law_changed_row -/
-- @cut 3
-- @cut 5
-- @cut 7
/-- a row with one change -/
def sp_w_changed_row : Spd := fun ws Q _ => match ws with
  | [.drw, .b sc, .d (.tuple row), .b us] => ∃ (ns : List Int) (vs : List Str), sc = ns.map .int ∧ ns.length ≤ 63 ∧ us = vs.map .str ∧ 0 < vs.length ∧ (∀ v ∈ vs, v.length ≤ 1000) ∧ (∀ y ∈ row, isIS y = true) ∧ row.length ≤ 1000 ∧ ∀ r2 : List PyData, (∀ y ∈ r2, isIS y = true) → Q (.d (.tuple r2))
  | _ => False
def m_w_changed_row (ns : List Int) (vs : List Str) (k : Int) (ρ : En) : Prop := ∃ (rr : List PyData) (o5 : Option W), (∀ y ∈ rr, isIS y = true) ∧ rr.length ≤ 1001 ∧ ρ = [some .drw, some (.b (ns.map .int)), some (.l rr), some (.b (vs.map .str)), some (.d (.int k)), o5]
def m2_w_changed_row (ns : List Int) (vs : List Str) (k : Int) (ρ : En) : Prop := ∃ (rr : List PyData) (o5 : Option W), (∀ y ∈ rr, isIS y = true) ∧ rr.length ≤ 1002 ∧ ρ = [some .drw, some (.b (ns.map .int)), some (.l rr), some (.b (vs.map .str)), some (.d (.int k)), o5]
theorem insD_all {P : PyData → Prop} {xs : List PyData} {i : Int} {x : PyData} (h : ∀ y ∈ xs, P y) (hx : P x) : ∀ y ∈ insD xs i x, P y := by
  intro y hy
  unfold insD at hy
  rcases List.mem_append.mp hy with z | z
  · rcases List.mem_append.mp z with z | z
    · exact h y (List.mem_of_mem_take z)
    · have : y = x := by simpa using z
      subst this; exact hx
  · exact h y (List.mem_of_mem_drop z)
theorem set_all {P : PyData → Prop} {xs : List PyData} {i : Nat} {x : PyData} (h : ∀ y ∈ xs, P y) (hx : P x) : ∀ y ∈ xs.set i x, P y := by
  intro y hy
  rcases List.mem_or_eq_of_mem_set hy with z | z
  · exact h y z
  · subst z; exact hx
theorem ok_w_changed_row (T : Txt K mg) : FnOk P w K mg base CX0 4 T.f_w_changed_row T.fd_w_changed_row ["_law_draws_here", "_law_script", "_law_row", "_law_words_here"] (toSp K sp_w_changed_row) :=
  okD T.F_w_changed_row sc_w_changed_row (fun ws Q E h => by
    unfold sp_w_changed_row at h
    split at h
    all_goals first | rfl | exact h.elim) (fun cdv A outer s H E Z hr =>
      (dss_cons (ds_set (i := 2) sc_w_changed_row.nd (d_cty call_list_of cd_list T.m_list (by decide +kernel) (da_cons (dv 2) da_nil)))
      (dss_cons (ds_set (i := 4) sc_w_changed_row.nd (d_call (ok_w_take T) (hr.mono (by decide)) T.g_w_take T.F_w_take.kp (bd_w_take T) pass0 (da_cons (dv 0) (da_cons d_int da_nil))))
      (dss_cut (ds_if (dt_w (dw_and (dt_cmp (op_eqD hr.units) od_eq (dv 4) d_int) (dw_and1 (dt_cmp op_gt od_gt (d_cb call_lenX cd_len T.m_len (by decide +kernel) (da_cons (dv 2) da_nil)) d_int))))
      (dss_one (ds_popAt 2 (da_cons (d_call (ok_w_take T) (hr.mono (by decide)) T.g_w_take T.F_w_take.kp (bd_w_take T) pass0 (da_cons (dv 0) (da_cons (d_cb call_lenX cd_len T.m_len (by decide +kernel) (da_cons (dv 2) da_nil)) da_nil))) da_nil)))
      dss_nil)
      (dss_cut (ds_if (dt_cmp (op_eqD hr.units) od_eq (dv 4) d_int)
      (dss_one (ds_ins 2 (da_cons (d_call (ok_w_take T) (hr.mono (by decide)) T.g_w_take T.F_w_take.kp (bd_w_take T) pass0 (da_cons (dv 0) (da_cons (d_op op_addA od_add (d_cb call_lenX cd_len T.m_len (by decide +kernel) (da_cons (dv 2) da_nil)) d_int) da_nil))) (da_cons (d_call (ok_w_any_value T) (hr.mono (by decide)) T.g_w_any_value T.F_w_any_value.kp (bd_w_any_value T) pass0 (da_cons (dv 0) (da_cons (dv 1) (da_cons (dv 3) da_nil)))) da_nil))))
      dss_nil)
      (dss_cut (ds_if (dt_w (dw_and (dt_cmp op_gt od_gt (dv 4) d_int) (dw_and1 (dt_cmp op_gt od_gt (d_cb call_lenX cd_len T.m_len (by decide +kernel) (da_cons (dv 2) da_nil)) d_int))))
      (dss_cons (ds_set (i := 5) sc_w_changed_row.nd (d_call (ok_w_take T) (hr.mono (by decide)) T.g_w_take T.F_w_take.kp (bd_w_take T) pass0 (da_cons (dv 0) (da_cons (d_cb call_lenX cd_len T.m_len (by decide +kernel) (da_cons (dv 2) da_nil)) da_nil))))
      (dss_cons (ds_seti 2 (d_call (ok_w_any_value T) (hr.mono (by decide)) T.g_w_any_value T.F_w_any_value.kp (bd_w_any_value T) pass0 (da_cons (dv 0) (da_cons (dv 1) (da_cons (dv 3) da_nil)))) (dv 5))
      (dss_one (ds_if (dt_cmp (op_eqD hr.units) od_eq (dv 4) d_int)
      (dss_one (ds_seti 2 (d_call (ok_w_strange T) (hr.mono (by decide)) T.g_w_strange T.F_w_strange.kp (bd_w_strange T) pass0 (da_cons (dv 0) (da_cons (d_ix (dv 3) d_int) da_nil))) (dv 5)))
      dss_nil))))
      dss_nil)
      (dss_one (ds_ret (d_cty call_tuple_of cd_tuple T.m_tuple (by decide +kernel) (da_cons (dv 2) da_nil))))))))))
    (fun ws Q E h => by
    unfold sp_w_changed_row at h
    split at h
    · rename_i row _
      obtain ⟨ns, vs, rfl, hl, rfl, v0, vl, hi, rl, h⟩ := h
      refine ⟨by decide, fun k k0 k1 => ⟨m_w_changed_row ns vs k, ?_, ?_⟩⟩
      · refine ifd (fun e => fun _ => ifd (fun e2 => ?_) (fun e2 => ?_)) (fun e => ?_)
        · refine fun _ => ⟨by omega, fun r r0 r1 => ⟨r0, r1, _, _, fun y hy => hi y (List.mem_of_mem_eraseIdx hy), Nat.le_trans (List.length_eraseIdx_le ..) (by omega), rfl⟩⟩
        · exact ⟨row, _, hi, by omega, rfl⟩
        · exact ⟨row, _, hi, by omega, rfl⟩
      · rintro ρ' ⟨rr, o5, ri, rl, rfl⟩
        have szl : (sizeLine : Nat) = 16777216 := sizeLine_eq
        refine ⟨m2_w_changed_row ns vs k, ifd (fun e => ?_) (fun e => ?_), ?_⟩
        · refine fun _ => ⟨by omega, fun r r0 r1 => ⟨ns, vs, rfl, hl, rfl, v0, fun i => ?_, fun u hu => ?_⟩⟩
          · exact ⟨by omega, r0, by omega, _, _, insD_all ri rfl, by rw [insD_len]; omega, rfl⟩
          · exact ⟨by omega, r0, by omega, _, _, insD_all ri rfl, by rw [insD_len]; omega, rfl⟩
        · exact ⟨rr, _, ri, by omega, rfl⟩
        · rintro ρ' ⟨rr, o5, ri, rl, rfl⟩
          refine ⟨m2_w_changed_row ns vs k, ifd (fun e => fun _ => ifd (fun e2 => ?_) (fun e2 => ?_)) (fun e => ?_), ?_⟩
          · refine fun _ => ⟨by omega, fun r r0 r1 => ⟨ns, vs, rfl, hl, rfl, v0, fun i => ?_, fun u hu => ?_⟩⟩
            · refine ⟨_, ixN_nat r0 r1, ifd (fun e3 => ?_) (fun e3 => ?_)⟩
              · obtain ⟨v, hv⟩ : ∃ v, vs[0]? = some v := ⟨vs[0], List.getElem?_eq_getElem v0⟩
                refine ⟨.str v, atI_nat (j := 0) (by rw [List.getElem?_map, hv]; rfl), by have := vl v (List.mem_of_getElem? hv); omega, fun y yl => ?_⟩
                exact ⟨_, ixN_nat r0 (by rw [List.length_set]; exact r1), _, _, set_all (set_all ri rfl) rfl, by rw [List.length_set, List.length_set]; omega, rfl⟩
              · exact ⟨_, _, set_all ri rfl, by rw [List.length_set]; omega, rfl⟩
            · refine ⟨_, ixN_nat r0 r1, ifd (fun e3 => ?_) (fun e3 => ?_)⟩
              · obtain ⟨v, hv⟩ : ∃ v, vs[0]? = some v := ⟨vs[0], List.getElem?_eq_getElem v0⟩
                refine ⟨.str v, atI_nat (j := 0) (by rw [List.getElem?_map, hv]; rfl), by have := vl v (List.mem_of_getElem? hv); omega, fun y yl => ?_⟩
                exact ⟨_, ixN_nat r0 (by rw [List.length_set]; exact r1), _, _, set_all (set_all ri rfl) rfl, by rw [List.length_set, List.length_set]; omega, rfl⟩
              · exact ⟨_, _, set_all ri rfl, by rw [List.length_set]; omega, rfl⟩
          · exact ⟨rr, _, ri, by omega, rfl⟩
          · exact ⟨rr, _, ri, by omega, rfl⟩
          · rintro ρ' ⟨rr, o5, ri, rl, rfl⟩
            exact h rr ri
    · exact h.elim)
/-! ## law -/
-- @frz 5 _law_names
abbrev sp_the_law : Spd := spLawD
def hd_the_law (ns : List Int) (xs : List Str) (ts : List Tb) (nm : List Str) (r : List (Option W)) : En := some (.b (ns.map .int)) :: some .drw :: some (.l (xs.map .str)) :: some (.d (.tuple (ts.map tbD))) :: some (.d (.list (nm.map .str))) :: r
def a_the_law (ns : List Int) (xs : List Str) (ts : List Tb) (nm : List Str) (_ : Nat) (ρ : En) : Prop := ∃ o5 o6 o7 o8 o9 o10 : Option W, ρ = hd_the_law ns xs ts nm [o5, o6, o7, o8, o9, o10]
def b_the_law (ns : List Int) (xs : List Str) (ts : List Tb) (nm : List Str) (us : List Tb) (_ : Nat) (ρ : En) : Prop := ∃ o5 o7 o8 o9 o10 : Option W, ρ = hd_the_law ns xs ts nm [o5, some (.d (.tuple (us.map tbD))), o7, o8, o9, o10]
def c_the_law (ns : List Int) (xs : List Str) (ts : List Tb) (nm : List Str) (_ : Nat) (ρ : En) : Prop := ∃ (row : List PyData) (o5 o6 o8 o9 o10 : Option W), (∀ y ∈ row, isIS y = true) ∧ ρ = hd_the_law ns xs ts nm [o5, o6, some (.d (.tuple row)), o8, o9, o10]
def d_the_law (ns : List Int) (xs : List Str) (ts : List Tb) (nm : List Str) (t : Tb) (row : List PyData) (_ : Nat) (ρ : En) : Prop := ∃ (o5 o6 o9 o10 : Option W), ρ = hd_the_law ns xs ts nm [o5, o6, some (.d (.tuple row)), some (.d (tbD t)), o9, o10]
def e_the_law (ns : List Int) (xs : List Str) (ts : List Tb) (nm : List Str) (row : List PyData) (_ : Nat) (ρ : En) : Prop := ∃ (o5 o6 o8 o9 o10 : Option W), ρ = hd_the_law ns xs ts nm [o5, o6, some (.d (.tuple row)), o8, o9, o10]
theorem ok_the_law (T : Txt K mg) : FnOk P w K mg base CX0 13 T.f_the_law T.fd_the_law ["_law_script"] (toSp K sp_the_law) :=
  okD T.F_the_law sc_the_law (fun ws Q E h => by
    unfold sp_the_law spLawD at h
    split at h
    all_goals first | rfl | exact h.elim) (fun cdv A outer s H E Z hr =>
      (dss_cons (ds_set (i := 1) sc_the_law.nd (d_call (ok_w_draws T) (hr.mono (by decide)) T.g_w_draws T.F_w_draws.kp (bd_w_draws T) pass0 (da_cons (dv 0) (da_cons d_int da_nil))))
      (dss_cons (ds_set (i := 2) sc_the_law.nd (d_call (ok_w_words T) (hr.mono (by decide)) T.g_w_words T.F_w_words.kp (bd_w_words T) pass0 (da_cons (dv 1) (da_cons d_int da_nil))))
      (dss_cons (ds_set (i := 3) sc_the_law.nd (d_call (ok_w_any_schema T) (hr.mono (by decide)) T.g_w_any_schema T.F_w_any_schema.kp (bd_w_any_schema T) pass0 (da_cons (dv 1) (da_cons (d_slice (dv 2) do_none (do_some d_int)) da_nil))))
      (dss_cons (ds_set (i := 4) sc_the_law.nd (d_op op_addA od_add (d_lc (own := [("_law_table_here", 8)]) rfl sc_the_law.nd (di_seq (dv 3)) (blkOk_by (N := n_the_law) (sc := defScope s_the_law) (by decide +kernel)) (fun _ _ _ _ _ => (dg_name (i := 8) sc_the_law.nd)) (fun _ _ _ _ _ => dts_nil) (fun _ _ _ _ _ => (d_ix (dv 8) d_int))) (d_lst (da_cons (d_ix (dv 2) d_int) (da_cons (d_op op_addA od_add (d_ix (dv 2) d_int) d_str) (da_cons (d_call (ok_w_strange T) (hr.mono (by decide)) T.g_w_strange T.F_w_strange.kp (bd_w_strange T) pass0 (da_cons (dv 1) (da_cons (d_ix (dv 2) d_int) da_nil))) da_nil))))))
      (dss_cons (ds_frz 4 (ds_for rfl (di_seq (dv 4)) (dg_name (i := 5) sc_the_law.nd)
      (dss_one (ds_if (dt_not (dt_val (d_call (ok_w_same T) (hr.mono (by decide)) T.g_w_same T.F_w_same.kp (bd_w_same T) pass0 (da_cons (d_call (ok_p_table_of T) (hr.mono (by decide)) T.g_p_table_of T.F_p_table_of.kp (bd_p_table_of T) pass0 (da_cons (dv 3) (da_cons (dv 5) da_nil))) (da_cons (d_call (ok_w_table T) (hr.mono (by decide)) T.g_w_table T.F_w_table.kp (bd_w_table T) pass0 (da_cons (dv 3) (da_cons (dv 5) da_nil))) da_nil)))))
      (dss_one (ds_ret d_bl))
      dss_nil))))
      (dss_cons (ds_set (i := 6) sc_the_law.nd (d_call (ok_w_rekeyed T) (hr.mono (by decide)) T.g_w_rekeyed T.F_w_rekeyed.kp (bd_w_rekeyed T) pass0 (da_cons (dv 1) (da_cons (dv 3) da_nil))))
      (dss_cons (ds_for rfl (di_seq (dv 4)) (dg_name (i := 5) sc_the_law.nd)
      (dss_cons (ds_if (dt_not (dt_val (d_call (ok_w_same T) (hr.mono (by decide)) T.g_w_same T.F_w_same.kp (bd_w_same T) pass0 (da_cons (d_call (ok_p_table_of T) (hr.mono (by decide)) T.g_p_table_of T.F_p_table_of.kp (bd_p_table_of T) pass0 (da_cons (dv 6) (da_cons (dv 5) da_nil))) (da_cons (d_call (ok_w_table T) (hr.mono (by decide)) T.g_w_table T.F_w_table.kp (bd_w_table T) pass0 (da_cons (dv 6) (da_cons (dv 5) da_nil))) da_nil)))))
      (dss_one (ds_ret d_bl))
      dss_nil)
      (dss_one (ds_if (dt_not (dt_val (d_call (ok_w_same T) (hr.mono (by decide)) T.g_w_same T.F_w_same.kp (bd_w_same T) pass0 (da_cons (d_call (ok_p_table_of T) (hr.mono (by decide)) T.g_p_table_of T.F_p_table_of.kp (bd_p_table_of T) pass0 (da_cons (dv 3) (da_cons (dv 5) da_nil))) (da_cons (d_call (ok_w_table T) (hr.mono (by decide)) T.g_w_table T.F_w_table.kp (bd_w_table T) pass0 (da_cons (dv 3) (da_cons (dv 5) da_nil))) da_nil)))))
      (dss_one (ds_ret d_bl))
      dss_nil))))
      (dss_cons (ds_set (i := 7) sc_the_law.nd (d_cty call_tuple_of cd_tuple T.m_tuple (by decide +kernel) (da_cons (d_lc (own := [("_law_k", 9)]) rfl sc_the_law.nd (di_rng1 T.m_range (da_cons (d_call (ok_w_take T) (hr.mono (by decide)) T.g_w_take T.F_w_take.kp (bd_w_take T) pass0 (da_cons (dv 1) (da_cons d_int da_nil))) da_nil)) (blkOk_by (N := n_the_law) (sc := defScope s_the_law) (by decide +kernel)) (fun _ _ _ _ _ => (dg_name (i := 9) sc_the_law.nd)) (fun _ _ _ _ _ => dts_nil) (fun _ _ _ _ _ => (d_call (ok_w_any_value T) (hr.mono (by decide)) T.g_w_any_value T.F_w_any_value.kp (bd_w_any_value T) pass0 (da_cons (dv 1) (da_cons (dv 0) (da_cons (dv 2) da_nil)))))) da_nil)))
      (dss_cons (ds_for rfl (di_seq (d_slice (dv 3) do_none (do_some d_int))) (dg_name (i := 8) sc_the_law.nd)
      (dss_cons (ds_set (i := 7) sc_the_law.nd (d_cty call_tuple_of cd_tuple T.m_tuple (by decide +kernel) (da_cons (d_lc (own := [("_law_k", 9)]) rfl sc_the_law.nd (di_rng1 T.m_range (da_cons (d_op op_addA od_add (d_ix (dv 8) d_int) (d_ix (dv 8) d_int)) da_nil)) (blkOk_by (N := n_the_law) (sc := defScope s_the_law) (by decide +kernel)) (fun _ _ _ _ _ => (dg_name (i := 9) sc_the_law.nd)) (fun _ _ _ _ _ => dts_nil) (fun _ _ _ _ _ => (d_call (ok_w_any_value T) (hr.mono (by decide)) T.g_w_any_value T.F_w_any_value.kp (bd_w_any_value T) pass0 (da_cons (dv 1) (da_cons (dv 0) (da_cons (dv 2) da_nil)))))) da_nil)))
      (dss_cons (ds_if (dt_not (dt_val (d_call (ok_w_same T) (hr.mono (by decide)) T.g_w_same T.F_w_same.kp (bd_w_same T) pass0 (da_cons (d_call (ok_p_is_fact T) (hr.mono (by decide)) T.g_p_is_fact T.F_p_is_fact.kp (bd_p_is_fact T) pass0 (da_cons (dv 3) (da_cons (d_ix (dv 8) d_int) (da_cons (dv 7) da_nil)))) (da_cons d_bl da_nil)))))
      (dss_one (ds_ret d_bl))
      dss_nil)
      (dss_one (ds_for rfl (di_rng1 T.m_range (da_cons d_int da_nil)) (dg_name (i := 9) sc_the_law.nd)
      (dss_cons (ds_set (i := 10) sc_the_law.nd (d_call (ok_w_changed_row T) (hr.mono (by decide)) T.g_w_changed_row T.F_w_changed_row.kp (bd_w_changed_row T) pass0 (da_cons (dv 1) (da_cons (dv 0) (da_cons (dv 7) (da_cons (dv 2) da_nil))))))
      (dss_cons (ds_set (i := 5) sc_the_law.nd (d_ix (dv 8) d_int))
      (dss_cons (ds_if (dt_cmp (op_eqD hr.units) od_eq (d_call (ok_w_take T) (hr.mono (by decide)) T.g_w_take T.F_w_take.kp (bd_w_take T) pass0 (da_cons (dv 1) (da_cons d_int da_nil))) d_int)
      (dss_one (ds_set (i := 5) sc_the_law.nd (d_call (ok_w_pick T) (hr.mono (by decide)) T.g_w_pick T.F_w_pick.kp (bd_w_pick T) pass0 (da_cons (dv 1) (da_cons (dv 4) da_nil)))))
      dss_nil)
      (dss_one (ds_if (dt_not (dt_val (d_call (ok_w_same T) (hr.mono (by decide)) T.g_w_same T.F_w_same.kp (bd_w_same T) pass0 (da_cons (d_call (ok_p_is_fact T) (hr.mono (by decide)) T.g_p_is_fact T.F_p_is_fact.kp (bd_p_is_fact T) pass0 (da_cons (dv 3) (da_cons (dv 5) (da_cons (dv 10) da_nil)))) (da_cons (d_call (ok_w_is_fact T) (hr.mono (by decide)) T.g_w_is_fact T.F_w_is_fact.kp (bd_w_is_fact T) pass0 (da_cons (dv 3) (da_cons (dv 5) (da_cons (dv 10) da_nil)))) da_nil)))))
      (dss_one (ds_ret d_bl))
      dss_nil))))))))))
      (dss_cons (ds_for rfl (di_seq (dv 4)) (dg_name (i := 5) sc_the_law.nd)
      (dss_one (ds_if (dt_not (dt_val (d_call (ok_w_same T) (hr.mono (by decide)) T.g_w_same T.F_w_same.kp (bd_w_same T) pass0 (da_cons (d_call (ok_p_is_fact T) (hr.mono (by decide)) T.g_p_is_fact T.F_p_is_fact.kp (bd_p_is_fact T) pass0 (da_cons (dv 3) (da_cons (dv 5) (da_cons (dv 7) da_nil)))) (da_cons (d_call (ok_w_is_fact T) (hr.mono (by decide)) T.g_w_is_fact T.F_w_is_fact.kp (bd_w_is_fact T) pass0 (da_cons (dv 3) (da_cons (dv 5) (da_cons (dv 7) da_nil)))) da_nil)))))
      (dss_one (ds_ret d_bl))
      dss_nil)))
      (dss_one (ds_ret d_bl)))))))))))))
    (fun ws Q E h => by
    unfold sp_the_law spLawD at h
    split at h
    · obtain ⟨ns, rfl, hl, h⟩ := h
      refine ⟨ns, rfl, hl, by decide, by decide, by decide, by decide, fun xs xl nd ok => ?_⟩
      have xl : xs.length = 24 := xl
      have szl : (sizeLine : Nat) = 16777216 := sizeLine_eq
      have ec : DL.cutD (xs.map PyData.str) none (some 21) = (xs.take 21).map .str := by
        rw [show (21 : Int) = ((21 : Nat) : Int) from rfl, cutD_take, List.map_take]
      have xw : ∀ v ∈ xs, v.length ≤ 1000 := fun v hv => by have := (ok v hv).2; simp at this; omega
      refine ⟨xs.take 21, ec, nd.sublist (List.take_sublist ..), fun n hn => (ok n (List.mem_of_mem_take hn)).1, fun ts so _ => ?_⟩
      refine ⟨fun j acc => acc = (ts.take j).map (fun t => PyData.str t.n), rfl, fun j y acc hy ha => ?_, fun acc ha => ?_⟩
      · obtain ⟨t, ht, rfl⟩ := map_some hy
        refine ⟨_, rfl, ?_⟩
        show acc ++ [PyData.str t.n] = (ts.take (j + 1)).map (fun t => PyData.str t.n)
        rw [take_succ_map ht, ← ha]
      · have ha' : acc = (ts.take (ts.map tbD).length).map (fun t => PyData.str t.n) := ha
        rw [List.length_map, List.take_length] at ha'
        obtain ⟨a, ea⟩ : ∃ a, xs[21]? = some a := ⟨xs[21], List.getElem?_eq_getElem (by omega)⟩
        obtain ⟨b, eb⟩ : ∃ a, xs[22]? = some a := ⟨xs[22], List.getElem?_eq_getElem (by omega)⟩
        obtain ⟨c, ec2⟩ : ∃ a, xs[23]? = some a := ⟨xs[23], List.getElem?_eq_getElem (by omega)⟩
        have bl := xw b (List.mem_of_getElem? eb)
        have cl := xw c (List.mem_of_getElem? ec2)
        have tl := so.few
        refine ⟨.str a, atI_nat (j := 21) (by rw [List.getElem?_map, ea]; rfl), .str b, atI_nat (j := 22) (by rw [List.getElem?_map, eb]; rfl), ?_⟩
        refine ⟨by rw [show (Str.ofString "q").length = 1 from by decide]; omega, .str c, atI_nat (j := 23) (by rw [List.getElem?_map, ec2]; rfl), by omega, fun y yl => ?_⟩
        refine ⟨by rw [ha', List.length_map]; show _ + 3 ≤ _; omega, ?_⟩
        obtain ⟨nm, en⟩ : ∃ nm : List Str, acc ++ [.str a, .str (b ++ Str.ofString "q"), .str y] = nm.map .str := ⟨ts.map Tb.n ++ [a, b ++ Str.ofString "q", y], by rw [ha']; simp⟩
        have tabs : ∀ (us : List Tb) (n : Str) (k : PyData → Prop), k (.bool true) → ∃ x y, asA (argW (.d (tabD (findT us n)))) = some x ∧ asA (argW (.d (tabD (findT us n)))) = some y ∧ noDict x = true ∧ noDict y = true ∧ y.depth < 12 ∧ k (.bool (sameB x y)) := fun us n k hk =>
          ⟨_, _, argW_asA (noDict_ne (noDict_tabD _)), argW_asA (noDict_ne (noDict_tabD _)), noDict_tabD _, noDict_tabD _, by have := depth_tabD (findT us n); omega, by rw [sameB_self]; exact hk⟩
        have nl : 0 < nm.length := by
          have := congrArg List.length en
          rw [List.length_append, List.length_map] at this
          show 0 < _
          rw [← this]; show 0 < acc.length + 3; omega
        refine ⟨a_the_law ns xs ts nm, ⟨none, none, none, none, none, none, ?_⟩, ?_, ?_⟩
        · exact congrArg (fun z => some (W.b (ns.map .int)) :: some .drw :: some (.l (xs.map .str)) :: some (.d (.tuple (ts.map tbD))) :: some (.d (.list z)) :: [none, none, none, none, none, none]) en
        · rintro i x ρ' hx ⟨o5, o6, o7, o8, o9, o10, rfl⟩
          replace hx : (acc ++ [PyData.str a, PyData.str (b ++ Str.ofString "q"), PyData.str y])[i]? = some x := hx
          rw [en] at hx
          obtain ⟨n, hn, rfl⟩ := map_some hx
          refine ⟨ts, rfl, ts, rfl, _, _, argW_asA (noDict_ne (noDict_tabD _)), argW_asA (noDict_ne (noDict_tabD _)), noDict_tabD _, noDict_tabD _, by have := depth_tabD (findT ts n); omega, ?_⟩
          rw [sameB_self]
          exact ⟨_, _, _, _, _, _, rfl⟩
        · rintro ρ' ⟨o5, o6, o7, o8, o9, o10, rfl⟩
          refine ⟨ts, rfl, so, fun us uso une => ⟨b_the_law ns xs ts nm us, ⟨_, _, _, _, _, rfl⟩, ?_, ?_⟩⟩
          · rintro i x ρ' hx ⟨o5, o7, o8, o9, o10, rfl⟩
            obtain ⟨n, hn, rfl⟩ := map_some hx
            refine ⟨us, rfl, us, rfl, _, _, argW_asA (noDict_ne (noDict_tabD _)), argW_asA (noDict_ne (noDict_tabD _)), noDict_tabD _, noDict_tabD _, by have := depth_tabD (findT us n); omega, ?_⟩
            rw [sameB_self]
            refine ⟨ts, rfl, ts, rfl, _, _, argW_asA (noDict_ne (noDict_tabD _)), argW_asA (noDict_ne (noDict_tabD _)), noDict_tabD _, noDict_tabD _, by have := depth_tabD (findT ts n); omega, ?_⟩
            rw [sameB_self]
            exact ⟨_, _, _, _, _, rfl⟩
          · rintro ρ' ⟨o5, o7, o8, o9, o10, rfl⟩
            refine ⟨by decide, fun r r0 r1 => ⟨by omega, by omega, fun j acc => acc.length = j ∧ ∀ y ∈ acc, okV y, ⟨rfl, (fun y hy => by cases hy)⟩, fun j y acc hy ha => ?_, fun row hr => ?_⟩⟩
            · refine ⟨ns, xs, rfl, hl, rfl, by omega, fun i => ?_, fun u hu => ?_⟩
              · exact ⟨by rw [List.length_append, ha.1]; rfl, all_snoc ha.2 ⟨rfl, rfl⟩⟩
              · exact ⟨by rw [List.length_append, ha.1]; rfl, all_snoc ha.2 ⟨rfl, (ok u hu).1⟩⟩
            · have hr2 : row.length = (rngD 0 r.toNat).length ∧ ∀ y ∈ row, okV y := hr
              refine ⟨c_the_law ns xs ts nm, ⟨row, _, _, _, _, _, fun y hy => (hr2.2 y hy).1, rfl⟩, ?_, ?_⟩
              · rintro i x ρ' hx ⟨row, o5, o6, o8, o9, o10, _, rfl⟩
                obtain ⟨t, ht, rfl⟩ : ∃ t, t ∈ ts ∧ x = tbD t := by
                  have hx : (DL.cutD (ts.map tbD) none (some ((6 : Nat) : Int)))[i]? = some x := hx
                  rw [cutD_take, ← List.map_take] at hx
                  obtain ⟨t, ht, e⟩ := map_some hx
                  exact ⟨t, List.mem_of_mem_take (List.mem_of_getElem? ht), e⟩
                have t8 := (so.wd t ht).2
                refine ⟨_, rfl, _, rfl, by omega, by omega, fun j acc => acc.length = j ∧ ∀ y ∈ acc, okV y, ⟨rfl, (fun y hy => by cases hy)⟩, fun j y acc hy ha => ?_, fun row hr => ?_⟩
                · refine ⟨ns, xs, rfl, hl, rfl, by omega, fun i => ?_, fun u hu => ?_⟩
                  · exact ⟨by rw [List.length_append, ha.1]; rfl, all_snoc ha.2 ⟨rfl, rfl⟩⟩
                  · exact ⟨by rw [List.length_append, ha.1]; rfl, all_snoc ha.2 ⟨rfl, (ok u hu).1⟩⟩
                · obtain ⟨rl, ro⟩ : row.length = (rngD 0 ((t.k : Int) + t.r).toNat).length ∧ ∀ y ∈ row, okV y := hr
                  rw [rngD_len] at rl
                  have rl : row.length = t.k + t.r := by omega
                  have i1 : row.all isIS = true := List.all_eq_true.mpr fun y hy => (ro y hy).1
                  have i2 : row.all isV = true := List.all_eq_true.mpr fun y hy => (ro y hy).2
                  have i3 : isF ts t.n row = true := by
                    unfold isF
                    rw [findT_mem so.nd ht]
                    show (decide (row.length = t.k + t.r) && row.all isV) = true
                    rw [decide_eq_true rl, i2]; rfl
                  refine ⟨_, rfl, ts, rfl, i1, ?_⟩
                  rw [i3]
                  refine ⟨_, _, rfl, rfl, noDict_bool _, noDict_bool _, by rw [depth_bool]; omega, ?_⟩
                  rw [sameB_self]
                  refine ⟨by decide, by decide, d_the_law ns xs ts nm t row, ⟨_, _, _, _, rfl⟩, ?_, ?_⟩
                  · rintro i x ρ' hx ⟨o5, o6, o9, o10, rfl⟩
                    refine ⟨ns, xs, rfl, hl, rfl, by omega, xw, fun y hy => (ro y hy).1, by omega, fun near hn => ⟨_, rfl, by decide, fun r r0 r1 => ?_⟩⟩
                    have i4 : near.all isIS = true := List.all_eq_true.mpr hn
                    refine ifd (fun e => ?_) (fun e => ?_)
                    · refine ⟨nm.map .str, rfl, by rw [List.length_map]; exact nl, fun y hy => ?_⟩
                      obtain ⟨n, hn2, rfl⟩ := List.mem_map.mp hy
                      refine ⟨ts, rfl, i4, ts, rfl, i4, _, _, rfl, rfl, noDict_bool _, noDict_bool _, by rw [depth_bool]; omega, ?_⟩
                      rw [sameB_self]
                      exact ⟨_, _, _, _, rfl⟩
                    · refine ⟨ts, rfl, i4, ts, rfl, i4, _, _, rfl, rfl, noDict_bool _, noDict_bool _, by rw [depth_bool]; omega, ?_⟩
                      rw [sameB_self]
                      exact ⟨_, _, _, _, rfl⟩
                  · rintro ρ' ⟨o5, o6, o9, o10, rfl⟩
                    exact ⟨row, _, _, _, _, _, fun y hy => (ro y hy).1, rfl⟩
              · rintro ρ' ⟨row, o5, o6, o8, o9, o10, ri, rfl⟩
                refine ⟨e_the_law ns xs ts nm row, ⟨_, _, _, _, _, rfl⟩, ?_, ?_⟩
                · rintro i x ρ' hx ⟨o5, o6, o8, o9, o10, rfl⟩
                  obtain ⟨n, hn, rfl⟩ := map_some hx
                  have i4 : row.all isIS = true := List.all_eq_true.mpr ri
                  refine ⟨ts, rfl, i4, ts, rfl, i4, _, _, rfl, rfl, noDict_bool _, noDict_bool _, by rw [depth_bool]; omega, ?_⟩
                  rw [sameB_self]
                  exact ⟨_, _, _, _, _, rfl⟩
                · rintro ρ' ⟨o5, o6, o8, o9, o10, rfl⟩
                  exact h
    · exact h.elim)
end
theorem all_mk {l : PySem.W.OpenLaw} {w : World} {K : PySem.W.Frag} {h : Heap} {mg : Str → Option Value} {fa f0 f1 f2 f3 f4 f5 f6 f7 f8 f9 f10 f11 f12 f13 f14 f15 f16 f17 f18 f19 : Addr} (X : K.In h) (G : h.Ns mainGlobals mg) (hfa : mg "law" = some (.ref fa))
    {od0 od1 od2 od3 od4 od5 od6 od7 od8 od9 od10 od11 od12 od13 od14 od15 od16 od17 od18 od19 an0 an1 an2 an3 an4 an5 an6 an7 an8 an9 an10 an11 an12 an13 an14 an15 an16 an17 an18 an19 : Option Addr} {sl0 sl1 sl2 sl3 sl4 sl5 sl6 sl7 sl8 sl9 sl10 sl11 sl12 sl13 sl14 sl15 sl16 sl17 sl18 sl19 : Array (Option Value)} {oc0 oc1 oc2 oc3 oc4 oc5 oc6 oc7 oc8 oc9 oc10 oc11 oc12 oc13 oc14 oc15 oc16 oc17 oc18 oc19 kV0 kV1 kV2 kV3 kV4 kV5 kV6 kV7 kV8 kV9 kV10 kV11 kV12 kV13 kV14 kV15 kV16 kV17 kV18 kV19 dc0 dc1 dc2 dc3 dc4 dc5 dc6 dc7 dc8 dc9 dc10 dc11 dc12 dc13 dc14 dc15 dc16 dc17 dc18 dc19 pm0 pm1 pm2 pm3 pm4 pm5 pm6 pm7 pm8 pm9 pm10 pm11 pm12 pm13 pm14 pm15 pm16 pm17 pm18 pm19 cd0 cd1 cd2 cd3 cd4 cd5 cd6 cd7 cd8 cd9 cd10 cd11 cd12 cd13 cd14 cd15 cd16 cd17 cd18 cd19 ct0 ct1 ct2 ct3 ct4 ct5 ct6 ct7 ct8 ct9 ct10 ct11 ct12 ct13 ct14 ct15 ct16 ct17 ct18 ct19 : Value} {tk_LETTERS : Tok}
    (a0 : PySem.W.nsIn K mainGlobals "is_word" = some (some (.ref f0)))
    (l0 : K.lookup f0 = some ⟨oc0, od0, .func (PySem.W.fnOf "is_word" "is_word" (defArgs s_p_is_word) (defBody s_p_is_word) (defScope s_p_is_word) .none kV0 dc0 pm0 an0 cd0 ct0), sl0⟩)
    (c0 : PySem.W.codeIn K cd0 "is_word" = true)
    (k0 : PySem.W.keepIn K (.ref f0) = true)
    (a1 : PySem.W.nsIn K mainGlobals "is_value" = some (some (.ref f1)))
    (l1 : K.lookup f1 = some ⟨oc1, od1, .func (PySem.W.fnOf "is_value" "is_value" (defArgs s_p_is_value) (defBody s_p_is_value) (defScope s_p_is_value) .none kV1 dc1 pm1 an1 cd1 ct1), sl1⟩)
    (c1 : PySem.W.codeIn K cd1 "is_value" = true)
    (k1 : PySem.W.keepIn K (.ref f1) = true)
    (a2 : PySem.W.nsIn K mainGlobals "is_row" = some (some (.ref f2)))
    (l2 : K.lookup f2 = some ⟨oc2, od2, .func (PySem.W.fnOf "is_row" "is_row" (defArgs s_p_is_row) (defBody s_p_is_row) (defScope s_p_is_row) .none kV2 dc2 pm2 an2 cd2 ct2), sl2⟩)
    (c2 : PySem.W.codeIn K cd2 "is_row" = true)
    (k2 : PySem.W.keepIn K (.ref f2) = true)
    (a3 : PySem.W.nsIn K mainGlobals "table_of" = some (some (.ref f3)))
    (l3 : K.lookup f3 = some ⟨oc3, od3, .func (PySem.W.fnOf "table_of" "table_of" (defArgs s_p_table_of) (defBody s_p_table_of) (defScope s_p_table_of) .none kV3 dc3 pm3 an3 cd3 ct3), sl3⟩)
    (c3 : PySem.W.codeIn K cd3 "table_of" = true)
    (k3 : PySem.W.keepIn K (.ref f3) = true)
    (a4 : PySem.W.nsIn K mainGlobals "is_fact" = some (some (.ref f4)))
    (l4 : K.lookup f4 = some ⟨oc4, od4, .func (PySem.W.fnOf "is_fact" "is_fact" (defArgs s_p_is_fact) (defBody s_p_is_fact) (defScope s_p_is_fact) .none kV4 dc4 pm4 an4 cd4 ct4), sl4⟩)
    (c4 : PySem.W.codeIn K cd4 "is_fact" = true)
    (k4 : PySem.W.keepIn K (.ref f4) = true)
    (a5 : PySem.W.nsIn K mainGlobals "_law_draws" = some (some (.ref f5)))
    (l5 : K.lookup f5 = some ⟨oc5, od5, .func (PySem.W.fnOf "_law_draws" "_law_draws" (defArgs s_w_draws) (defBody s_w_draws) (defScope s_w_draws) .none kV5 dc5 pm5 an5 cd5 ct5), sl5⟩)
    (c5 : PySem.W.codeIn K cd5 "_law_draws" = true)
    (k5 : PySem.W.keepIn K (.ref f5) = true)
    (a6 : PySem.W.nsIn K mainGlobals "_law_take" = some (some (.ref f6)))
    (l6 : K.lookup f6 = some ⟨oc6, od6, .func (PySem.W.fnOf "_law_take" "_law_take" (defArgs s_w_take) (defBody s_w_take) (defScope s_w_take) .none kV6 dc6 pm6 an6 cd6 ct6), sl6⟩)
    (c6 : PySem.W.codeIn K cd6 "_law_take" = true)
    (k6 : PySem.W.keepIn K (.ref f6) = true)
    (a7 : PySem.W.nsIn K mainGlobals "_law_pick" = some (some (.ref f7)))
    (l7 : K.lookup f7 = some ⟨oc7, od7, .func (PySem.W.fnOf "_law_pick" "_law_pick" (defArgs s_w_pick) (defBody s_w_pick) (defScope s_w_pick) .none kV7 dc7 pm7 an7 cd7 ct7), sl7⟩)
    (c7 : PySem.W.codeIn K cd7 "_law_pick" = true)
    (k7 : PySem.W.keepIn K (.ref f7) = true)
    (a8 : PySem.W.nsIn K mainGlobals "_law_size" = some (some (.ref f8)))
    (l8 : K.lookup f8 = some ⟨oc8, od8, .func (PySem.W.fnOf "_law_size" "_law_size" (defArgs s_w_size) (defBody s_w_size) (defScope s_w_size) .none kV8 dc8 pm8 an8 cd8 ct8), sl8⟩)
    (c8 : PySem.W.codeIn K cd8 "_law_size" = true)
    (k8 : PySem.W.keepIn K (.ref f8) = true)
    (a9 : PySem.W.nsIn K mainGlobals "_law_same" = some (some (.ref f9)))
    (l9 : K.lookup f9 = some ⟨oc9, od9, .func (PySem.W.fnOf "_law_same" "_law_same" (defArgs s_w_same) (defBody s_w_same) (defScope s_w_same) .none kV9 dc9 pm9 an9 cd9 ct9), sl9⟩)
    (c9 : PySem.W.codeIn K cd9 "_law_same" = true)
    (k9 : PySem.W.keepIn K (.ref f9) = true)
    (a10 : PySem.W.nsIn K mainGlobals "_law_table" = some (some (.ref f10)))
    (l10 : K.lookup f10 = some ⟨oc10, od10, .func (PySem.W.fnOf "_law_table" "_law_table" (defArgs s_w_table) (defBody s_w_table) (defScope s_w_table) .none kV10 dc10 pm10 an10 cd10 ct10), sl10⟩)
    (c10 : PySem.W.codeIn K cd10 "_law_table" = true)
    (k10 : PySem.W.keepIn K (.ref f10) = true)
    (a11 : PySem.W.nsIn K mainGlobals "_law_is_word" = some (some (.ref f11)))
    (l11 : K.lookup f11 = some ⟨oc11, od11, .func (PySem.W.fnOf "_law_is_word" "_law_is_word" (defArgs s_w_is_word) (defBody s_w_is_word) (defScope s_w_is_word) .none kV11 dc11 pm11 an11 cd11 ct11), sl11⟩)
    (c11 : PySem.W.codeIn K cd11 "_law_is_word" = true)
    (k11 : PySem.W.keepIn K (.ref f11) = true)
    (a12 : PySem.W.nsIn K mainGlobals "_law_words" = some (some (.ref f12)))
    (l12 : K.lookup f12 = some ⟨oc12, od12, .func (PySem.W.fnOf "_law_words" "_law_words" (defArgs s_w_words) (defBody s_w_words) (defScope s_w_words) .none kV12 dc12 pm12 an12 cd12 ct12), sl12⟩)
    (c12 : PySem.W.codeIn K cd12 "_law_words" = true)
    (k12 : PySem.W.keepIn K (.ref f12) = true)
    (a13 : PySem.W.nsIn K mainGlobals "_law_strange" = some (some (.ref f13)))
    (l13 : K.lookup f13 = some ⟨oc13, od13, .func (PySem.W.fnOf "_law_strange" "_law_strange" (defArgs s_w_strange) (defBody s_w_strange) (defScope s_w_strange) .none kV13 dc13 pm13 an13 cd13 ct13), sl13⟩)
    (c13 : PySem.W.codeIn K cd13 "_law_strange" = true)
    (k13 : PySem.W.keepIn K (.ref f13) = true)
    (a14 : PySem.W.nsIn K mainGlobals "_law_any_value" = some (some (.ref f14)))
    (l14 : K.lookup f14 = some ⟨oc14, od14, .func (PySem.W.fnOf "_law_any_value" "_law_any_value" (defArgs s_w_any_value) (defBody s_w_any_value) (defScope s_w_any_value) .none kV14 dc14 pm14 an14 cd14 ct14), sl14⟩)
    (c14 : PySem.W.codeIn K cd14 "_law_any_value" = true)
    (k14 : PySem.W.keepIn K (.ref f14) = true)
    (a15 : PySem.W.nsIn K mainGlobals "_law_any_schema" = some (some (.ref f15)))
    (l15 : K.lookup f15 = some ⟨oc15, od15, .func (PySem.W.fnOf "_law_any_schema" "_law_any_schema" (defArgs s_w_any_schema) (defBody s_w_any_schema) (defScope s_w_any_schema) .none kV15 dc15 pm15 an15 cd15 ct15), sl15⟩)
    (c15 : PySem.W.codeIn K cd15 "_law_any_schema" = true)
    (k15 : PySem.W.keepIn K (.ref f15) = true)
    (a16 : PySem.W.nsIn K mainGlobals "_law_is_fact" = some (some (.ref f16)))
    (l16 : K.lookup f16 = some ⟨oc16, od16, .func (PySem.W.fnOf "_law_is_fact" "_law_is_fact" (defArgs s_w_is_fact) (defBody s_w_is_fact) (defScope s_w_is_fact) .none kV16 dc16 pm16 an16 cd16 ct16), sl16⟩)
    (c16 : PySem.W.codeIn K cd16 "_law_is_fact" = true)
    (k16 : PySem.W.keepIn K (.ref f16) = true)
    (a17 : PySem.W.nsIn K mainGlobals "_law_rekeyed" = some (some (.ref f17)))
    (l17 : K.lookup f17 = some ⟨oc17, od17, .func (PySem.W.fnOf "_law_rekeyed" "_law_rekeyed" (defArgs s_w_rekeyed) (defBody s_w_rekeyed) (defScope s_w_rekeyed) .none kV17 dc17 pm17 an17 cd17 ct17), sl17⟩)
    (c17 : PySem.W.codeIn K cd17 "_law_rekeyed" = true)
    (k17 : PySem.W.keepIn K (.ref f17) = true)
    (a18 : PySem.W.nsIn K mainGlobals "_law_changed_row" = some (some (.ref f18)))
    (l18 : K.lookup f18 = some ⟨oc18, od18, .func (PySem.W.fnOf "_law_changed_row" "_law_changed_row" (defArgs s_w_changed_row) (defBody s_w_changed_row) (defScope s_w_changed_row) .none kV18 dc18 pm18 an18 cd18 ct18), sl18⟩)
    (c18 : PySem.W.codeIn K cd18 "_law_changed_row" = true)
    (k18 : PySem.W.keepIn K (.ref f18) = true)
    (a19 : PySem.W.nsIn K mainGlobals "law" = some (some (.ref f19)))
    (l19 : K.lookup f19 = some ⟨oc19, od19, .func (PySem.W.fnOf "law" "law" (defArgs s_the_law) (defBody s_the_law) (defScope s_the_law) .none kV19 dc19 pm19 an19 cd19 ct19), sl19⟩)
    (c19 : PySem.W.codeIn K cd19 "law" = true)
    (k19 : PySem.W.keepIn K (.ref f19) = true)
    (z_abs : PySem.W.nsIn K mainGlobals "abs" = some none)
    (z_all : PySem.W.nsIn K mainGlobals "all" = some none)
    (z_bool : PySem.W.nsIn K mainGlobals "bool" = some none)
    (z_int : PySem.W.nsIn K mainGlobals "int" = some none)
    (z_isinstance : PySem.W.nsIn K mainGlobals "isinstance" = some none)
    (z_len : PySem.W.nsIn K mainGlobals "len" = some none)
    (z_list : PySem.W.nsIn K mainGlobals "list" = some none)
    (z_max : PySem.W.nsIn K mainGlobals "max" = some none)
    (z_range : PySem.W.nsIn K mainGlobals "range" = some none)
    (z_sorted : PySem.W.nsIn K mainGlobals "sorted" = some none)
    (z_str : PySem.W.nsIn K mainGlobals "str" = some none)
    (z_tuple : PySem.W.nsIn K mainGlobals "tuple" = some none)
    (y_LETTERS : PySem.W.nsIn K mainGlobals "LETTERS" = some (some (.str (Str.ofString "abcdefghijklmnopqrstuvwxyz") tk_LETTERS))) :
    ∃ fd : FuncData, (∀ (s : Shared) (v : Value), BindsTo s fd ⟨[v], []⟩ [("_law_script", v)]) ∧ ∀ base : Heap, K.In base → base.Ns mainGlobals mg → FnOk l.prog w K mg base CX0 13 fa fd ["_law_script"] (toSp K sp_the_law) := by
  have e := hfa.symm.trans (PySem.W.mg_of X G a19)
  cases e
  exact ⟨_, fun s v => .of_eq rfl, fun base _ _ => ok_the_law (K := K) (mg := mg) { m_abs := PySem.W.mg_none_of X G z_abs, m_all := PySem.W.mg_none_of X G z_all, m_bool := PySem.W.mg_none_of X G z_bool, m_int := PySem.W.mg_none_of X G z_int, m_isinstance := PySem.W.mg_none_of X G z_isinstance, m_len := PySem.W.mg_none_of X G z_len, m_list := PySem.W.mg_none_of X G z_list, m_max := PySem.W.mg_none_of X G z_max, m_range := PySem.W.mg_none_of X G z_range, m_sorted := PySem.W.mg_none_of X G z_sorted, m_str := PySem.W.mg_none_of X G z_str, m_tuple := PySem.W.mg_none_of X G z_tuple, tk_LETTERS := _, c_LETTERS := PySem.W.mg_of X G y_LETTERS, f_p_is_word := _, fd_p_is_word := _, F_p_is_word := fun_mk (st := s_p_is_word) l0 c0 k0, g_p_is_word := PySem.W.mg_of X G a0, f_p_is_value := _, fd_p_is_value := _, F_p_is_value := fun_mk (st := s_p_is_value) l1 c1 k1, g_p_is_value := PySem.W.mg_of X G a1, f_p_is_row := _, fd_p_is_row := _, F_p_is_row := fun_mk (st := s_p_is_row) l2 c2 k2, g_p_is_row := PySem.W.mg_of X G a2, f_p_table_of := _, fd_p_table_of := _, F_p_table_of := fun_mk (st := s_p_table_of) l3 c3 k3, g_p_table_of := PySem.W.mg_of X G a3, f_p_is_fact := _, fd_p_is_fact := _, F_p_is_fact := fun_mk (st := s_p_is_fact) l4 c4 k4, g_p_is_fact := PySem.W.mg_of X G a4, f_w_draws := _, fd_w_draws := _, F_w_draws := fun_mk (st := s_w_draws) l5 c5 k5, g_w_draws := PySem.W.mg_of X G a5, f_w_take := _, fd_w_take := _, F_w_take := fun_mk (st := s_w_take) l6 c6 k6, g_w_take := PySem.W.mg_of X G a6, f_w_pick := _, fd_w_pick := _, F_w_pick := fun_mk (st := s_w_pick) l7 c7 k7, g_w_pick := PySem.W.mg_of X G a7, f_w_size := _, fd_w_size := _, F_w_size := fun_mk (st := s_w_size) l8 c8 k8, g_w_size := PySem.W.mg_of X G a8, f_w_same := _, fd_w_same := _, F_w_same := fun_mk (st := s_w_same) l9 c9 k9, g_w_same := PySem.W.mg_of X G a9, f_w_table := _, fd_w_table := _, F_w_table := fun_mk (st := s_w_table) l10 c10 k10, g_w_table := PySem.W.mg_of X G a10, f_w_is_word := _, fd_w_is_word := _, F_w_is_word := fun_mk (st := s_w_is_word) l11 c11 k11, g_w_is_word := PySem.W.mg_of X G a11, f_w_words := _, fd_w_words := _, F_w_words := fun_mk (st := s_w_words) l12 c12 k12, g_w_words := PySem.W.mg_of X G a12, f_w_strange := _, fd_w_strange := _, F_w_strange := fun_mk (st := s_w_strange) l13 c13 k13, g_w_strange := PySem.W.mg_of X G a13, f_w_any_value := _, fd_w_any_value := _, F_w_any_value := fun_mk (st := s_w_any_value) l14 c14 k14, g_w_any_value := PySem.W.mg_of X G a14, f_w_any_schema := _, fd_w_any_schema := _, F_w_any_schema := fun_mk (st := s_w_any_schema) l15 c15 k15, g_w_any_schema := PySem.W.mg_of X G a15, f_w_is_fact := _, fd_w_is_fact := _, F_w_is_fact := fun_mk (st := s_w_is_fact) l16 c16 k16, g_w_is_fact := PySem.W.mg_of X G a16, f_w_rekeyed := _, fd_w_rekeyed := _, F_w_rekeyed := fun_mk (st := s_w_rekeyed) l17 c17 k17, g_w_rekeyed := PySem.W.mg_of X G a17, f_w_changed_row := _, fd_w_changed_row := _, F_w_changed_row := fun_mk (st := s_w_changed_row) l18 c18 k18, g_w_changed_row := PySem.W.mg_of X G a18, f_the_law := _, fd_the_law := _, F_the_law := fun_mk (st := s_the_law) l19 c19 k19, g_the_law := PySem.W.mg_of X G a19 }⟩
end Pf
open PySem PySem.W PyProof.Rows
set_option maxRecDepth 100000 in
set_option maxHeartbeats 0 in
theorem PySem.Challenge.cw_everymending_k04_tables_and_facts_holds : PySem.Challenge.rw_everymending_k04_tables_and_facts.Holds := by
  w_on; o_law; k_head; (case hw => w_witness2)
  k_fill
  refine L2.walk_of (l := PySem.Challenge.rw_everymending_k04_tables_and_facts) (n := 63) (k := 13) (x := "_law_script") (CX := fun _ => L2.CX0) (sp := fun w => DL.toSp _ Pf.sp_the_law) rfl (by decide) rfl ⟨rfl, by decide, by decide⟩ (fun w h Y => PySem.W.kIn_of Y) ?F (fun _ _ a ns hl _ hS => DL.law_start hl hS fun _ => rfl) (fun _ _ _ _ _ h => h)
  case F =>
    intro w mg fa h KX G hmg
    refine' Pf.all_mk KX G hmg ?a0 ?l0 ?c0 ?k0 ?a1 ?l1 ?c1 ?k1 ?a2 ?l2 ?c2 ?k2 ?a3 ?l3 ?c3 ?k3 ?a4 ?l4 ?c4 ?k4 ?a5 ?l5 ?c5 ?k5 ?a6 ?l6 ?c6 ?k6 ?a7 ?l7 ?c7 ?k7 ?a8 ?l8 ?c8 ?k8 ?a9 ?l9 ?c9 ?k9 ?a10 ?l10 ?c10 ?k10 ?a11 ?l11 ?c11 ?k11 ?a12 ?l12 ?c12 ?k12 ?a13 ?l13 ?c13 ?k13 ?a14 ?l14 ?c14 ?k14 ?a15 ?l15 ?c15 ?k15 ?a16 ?l16 ?c16 ?k16 ?a17 ?l17 ?c17 ?k17 ?a18 ?l18 ?c18 ?k18 ?a19 ?l19 ?c19 ?k19 ?z_abs ?z_all ?z_bool ?z_int ?z_isinstance ?z_len ?z_list ?z_max ?z_range ?z_sorted ?z_str ?z_tuple ?y_LETTERS
    (case a0 => k_is)
    (case l0 => k_is)
    (case c0 => k_is)
    (case k0 => k_is)
    (case a1 => k_is)
    (case l1 => k_is)
    (case c1 => k_is)
    (case k1 => k_is)
    (case a2 => k_is)
    (case l2 => k_is)
    (case c2 => k_is)
    (case k2 => k_is)
    (case a3 => k_is)
    (case l3 => k_is)
    (case c3 => k_is)
    (case k3 => k_is)
    (case a4 => k_is)
    (case l4 => k_is)
    (case c4 => k_is)
    (case k4 => k_is)
    (case a5 => k_is)
    (case l5 => k_is)
    (case c5 => k_is)
    (case k5 => k_is)
    (case a6 => k_is)
    (case l6 => k_is)
    (case c6 => k_is)
    (case k6 => k_is)
    (case a7 => k_is)
    (case l7 => k_is)
    (case c7 => k_is)
    (case k7 => k_is)
    (case a8 => k_is)
    (case l8 => k_is)
    (case c8 => k_is)
    (case k8 => k_is)
    (case a9 => k_is)
    (case l9 => k_is)
    (case c9 => k_is)
    (case k9 => k_is)
    (case a10 => k_is)
    (case l10 => k_is)
    (case c10 => k_is)
    (case k10 => k_is)
    (case a11 => k_is)
    (case l11 => k_is)
    (case c11 => k_is)
    (case k11 => k_is)
    (case a12 => k_is)
    (case l12 => k_is)
    (case c12 => k_is)
    (case k12 => k_is)
    (case a13 => k_is)
    (case l13 => k_is)
    (case c13 => k_is)
    (case k13 => k_is)
    (case a14 => k_is)
    (case l14 => k_is)
    (case c14 => k_is)
    (case k14 => k_is)
    (case a15 => k_is)
    (case l15 => k_is)
    (case c15 => k_is)
    (case k15 => k_is)
    (case a16 => k_is)
    (case l16 => k_is)
    (case c16 => k_is)
    (case k16 => k_is)
    (case a17 => k_is)
    (case l17 => k_is)
    (case c17 => k_is)
    (case k17 => k_is)
    (case a18 => k_is)
    (case l18 => k_is)
    (case c18 => k_is)
    (case k18 => k_is)
    (case a19 => k_is)
    (case l19 => k_is)
    (case c19 => k_is)
    (case k19 => k_is)
    (case z_abs => k_is)
    (case z_all => k_is)
    (case z_bool => k_is)
    (case z_int => k_is)
    (case z_isinstance => k_is)
    (case z_len => k_is)
    (case z_list => k_is)
    (case z_max => k_is)
    (case z_range => k_is)
    (case z_sorted => k_is)
    (case z_str => k_is)
    (case z_tuple => k_is)
    (case y_LETTERS => k_is)
