import PyProof.Rows.All
import Wide.All
import OpenK.AllK
import Wide.FinOn
import HandS.ForMost
import HandS.IsInst
import HandS.Deep
import HandS.TupAny
import HandS.TupLe
import HandS.More
import KE.KDictKeyed
import KE.GoesDict
import KE.SortKeyHeap
import HandS.SortKw
import HandS.Keys
import HandS.Dict
import HandS.Iter
import HandS.Conv
import PyProof.DictMoreH
import KE.GoesMore
import KE.GoesEnum
import HandS.Rev
import HandS.Strs
import KE.DataFind
import KE.KDictOf
import HandS.SetBool
import HandS.SetFor
import HandS.DictComp
import HandS.Remove
import KE.KDictPairs
import KE.DataMinMax
import PyProof.P3Eq
import HandS.Replace
import PySem.Challenge.RW_everymending_k02_order_of_values
set_option Elab.async false
set_option linter.all false
set_option maxRecDepth 100000
set_option maxHeartbeats 4000000
set_option synthInstance.maxHeartbeats 400000
set_option synthInstance.maxSize 2000

/-! DL0: new tuples, known to the object (they have no dict). -/
namespace DL
open PySem PySem.Spec PyProof.Rows L2

/-- a new tuple at p -/
def NewT (H : Hp) (p : Addr) (xs : List V) (Q : Hp → Prop) : Prop := ∀ o : Obj, o.dict = none → Q (upd H p (.frz o (.tup xs)))
section
variable {X : Cx} {es : List Expr} {t : TA} {pos : Pos}
theorem laid_tup {pins : List (Addr × Obj)} {s : Shared} {σ : L2.St} {H : Hp} {xs : List V} {its : List Value} {h' : Heap} {tk : Nat} (I : Inv X pins σ H { s with heap := h', toks := tk }) (r : Vals xs its) (z : xs.length ≤ sizeLine) :
    Inv X pins σ (upd H h'.objs.size (.frz { cls := .type "tuple", data := .seq its.toArray } (.tup xs))) { s with heap := h'.push { cls := .type "tuple", data := .seq its.toArray }, toks := tk } :=
  I.laid (t' := tk) (fun b o e => Heap.get?_push_of_some _ e) (Nat.le_refl _) ⟨Heap.get?_push_size _ rfl, z, its, r, IsTup.new _ _⟩
def tTupX (t : TA) : TE := fun σ H Q => t σ H fun xs H1 => xs.length ≤ sizeLine ∧ ∀ p, H1 p = none → NewT H1 p xs (Q (.ref p))
theorem pe_tupX {x1} (h : PA X es t) : PE X (.Tuple es x1 pos) (tTupX t) := by
  refine ⟨fun pins s σ H Q I hq => ?_⟩
  refine wpAny_Tuple_spliced (thn (h.run pos pins s σ H _ I hq) fun us s1 ⟨xs, H1, I1, r, z, q⟩ => ⟨by rw [← r.length]; exact z, ?_⟩)
  have hf : H1 s1.heap.objs.size = none := I1.hok.fresh (Nat.le_refl _)
  exact ⟨.ref s1.heap.objs.size, _, laid_tup I1 r z, rfl, q _ hf _ rfl⟩
theorem call_tuple_ofX : CallR X (.type "tuple") (fun xs H Q => ∃ p ys, xs = [.ref p] ∧ ((SqL X.K H p ys ∧ ∀ l, H l = none → NewT H l ys (Q (.ref l))) ∨ (SqT X.K H p ys ∧ Q (.ref p) H))) := by
  intro pins s σ H xs us Q I r h
  obtain ⟨p, ys, rfl, h⟩ := h
  obtain ⟨u, rfl, rx⟩ := vals1 r
  cases rx
  rcases h with ⟨hq, q⟩ | ⟨hq, q⟩
  · obtain ⟨its, r', pl, hz⟩ := I.list hq
    have hlen := r'.length
    refine call_tuple_list pl.isList (fun h' kp => ?_) (by simp only [List.size_toArray] <;> omega)
    have I1 : Inv X pins σ H { s with heap := h' } := I.kept (t' := s.toks) kp
    exact ⟨.ref h'.objs.size, _, laid_tup (tk := s.toks) I1 r' hz, rfl, q _ (I1.hok.fresh (Nat.le_refl _)) _ rfl⟩
  · obtain ⟨its, r', pl, hz⟩ := I.tuple hq
    exact call_tuple_same pl ⟨.ref p, H, I, rfl, q⟩
/-- t + u -/
def rCatX (K : PySem.W.Frag) : R2 := fun x y H Q => ∃ a b xs ys, x = .ref a ∧ y = .ref b ∧ SqT K H a xs ∧ SqT K H b ys ∧ xs.length + ys.length ≤ sizeLine ∧
  (xs = [] → Q (.ref b) H) ∧ (xs ≠ [] → ys = [] → Q (.ref a) H) ∧ (xs ≠ [] → ys ≠ [] → ∀ p, H p = none → NewT H p (xs ++ ys) (Q (.ref p)))
theorem op_catX : OpR X (binaryOp .Add) (rCatX X.K) := by
  intro pins s σ H x y v u Q I rx ry h
  obtain ⟨a, b, xs, ys, rfl, rfl, ha, hb, hz, q0, q1, q2⟩ := h
  cases rx
  cases ry
  obtain ⟨its, r1, p1, _⟩ := I.tuple ha
  obtain ⟨its2, r2, p2, _⟩ := I.tuple hb
  by_cases hx : xs = []
  · subst hx
    cases r1
    exact cat_tup0 p1 p2 ⟨.ref b, H, I, rfl, q0 rfl⟩
  · refine HT.cat_tup p1 p2 (fun z => hx (r1.nil_iff.mp z)) (fun z => ⟨.ref a, H, I, rfl, q1 hx (r2.nil_iff.mp z)⟩) (fun z => ?_) (by rw [← r1.length, ← r2.length]; exact hz)
    exact ⟨.ref s.heap.objs.size, _, laid_tup (tk := s.toks) I (r1.append r2) (by rw [List.length_append]; exact hz), rfl, q2 hx (fun w => z (r2.nil_iff.mpr w)) _ (I.hok.fresh (Nat.le_refl _)) _ rfl⟩
/-- t[lo:hi]: the whole of it is t itself -/
def rSlAX (K : PySem.W.Frag) : V → Option Int → Option Int → Hp → VK → Prop := fun x lo hi H Q => ∃ a xs, x = .ref a ∧ SqT K H a xs ∧
  (HT.sIx xs.length 0 lo = 0 ∧ HT.sIx xs.length xs.length hi = xs.length → Q (.ref a) H) ∧ (¬ (HT.sIx xs.length 0 lo = 0 ∧ HT.sIx xs.length xs.length hi = xs.length) → ∀ p, H p = none → NewT H p (cutV xs lo hi) (Q (.ref p)))
theorem sl_tupAX : SlR X (rSlAX X.K) := by
  intro pins s σ H x v vl vu lo hi sl Q I rx hs pl pu h
  obtain ⟨a, xs, rfl, hx, q1, q2⟩ := h
  cases rx
  obtain ⟨its, r, ht, hz⟩ := I.tuple hx
  have hlen : its.toArray.size = xs.length := by rw [List.size_toArray]; exact r.length.symm
  by_cases hw : HT.sIx xs.length 0 lo = 0 ∧ HT.sIx xs.length xs.length hi = xs.length
  · refine ⟨"tuple", _, PyProof.Rows.slot_tuple_getitem.lookup, ht.typeIs, ?_⟩
    exact getItem_tuple_whole ht hs pl pu (by rw [hlen]; exact hw) ⟨.ref a, H, I, rfl, q1 hw⟩
  · refine ⟨"tuple", _, PyProof.Rows.slot_tuple_getitem.lookup, ht.typeIs, ?_⟩
    refine HT.getItem_tuple_cut ht hs pl pu (by rw [hlen]; exact hw) ?_ (by rw [hlen]; exact hz)
    rw [hlen]
    exact ⟨.ref s.heap.objs.size, _, laid_tup (tk := s.toks) I ((r.drop (HT.sIx xs.length 0 lo)).take (HT.sIx xs.length xs.length hi - HT.sIx xs.length 0 lo)) (Nat.le_trans (cutV_length xs lo hi) hz), rfl, q2 hw _ (I.hok.fresh (Nat.le_refl _)) _ rfl⟩
end
end DL

/-! DL1: the data layer, its relation: data (PyData) of a value over a stable heap, what a slot is known to be, what a slot owns. -/
namespace DL
open PySem PySem.Spec PyProof.Rows L2

def Ex (H H' : Hp) : Prop := ∀ a o, H a = some o → H' a = some o
theorem Ex.refl (H : Hp) : Ex H H := fun _ _ h => h
theorem Ex.trans {H H1 H2 : Hp} (a : Ex H H1) (b : Ex H1 H2) : Ex H H2 := fun x o h => b x o (a x o h)
theorem Ex.back {H H' : Hp} {p : Addr} (e : Ex H H') (h : H' p = none) : H p = none := by
  cases h1 : H p with
  | none => rfl
  | some o => rw [e p o h1] at h; cases h
theorem Ex.new {H : Hp} {p : Addr} {o : HO} (h : H p = none) : Ex H (upd H p o) := fun a u e => by
  rw [upd_ne (ne_of_none e h)]; exact e
theorem Ex.mut {H H' : Hp} {p : Addr} {o : HO} (e : Ex H H') (h : H p = none) : Ex H (upd H' p o) := fun a u ha => by
  rw [upd_ne (ne_of_none ha h)]; exact e a u ha
theorem Ex.rd {H H' : Hp} {a : Addr} {u : HO} (e : Ex H H') (h : Rd H a u) : Rd H' a u := by
  rcases h with h | ⟨o, h⟩
  · exact .inl (e a _ h)
  · exact .inr ⟨o, e a _ h⟩
theorem Ex.sqL {K : PySem.W.Frag} {H H' : Hp} {a : Addr} {xs : List V} (e : Ex H H') (h : SqL K H a xs) : SqL K H' a xs := by
  rcases h with h | h
  · exact .inl (e.rd h)
  · exact .inr h
theorem Ex.sqT {K : PySem.W.Frag} {H H' : Hp} {a : Addr} {xs : List V} (e : Ex H H') (h : SqT K H a xs) : SqT K H' a xs := by
  rcases h with h | h
  · exact .inl (e.rd h)
  · exact .inr h

/-- the stable part and the heap go on: nothing that stood changes, what was not stable does not become so -/
structure Up (G H G' H' : Hp) : Prop where
  g : Ex G G'
  h : Ex H H'
  gh : Ex G' H'
  sep : ∀ a, H a ≠ none → G a = none → G' a = none
theorem Up.refl {G H : Hp} (e : Ex G H) : Up G H G H := ⟨Ex.refl _, Ex.refl _, e, fun _ _ h => h⟩
theorem Up.trans {G H G1 H1 G2 H2 : Hp} (a : Up G H G1 H1) (b : Up G1 H1 G2 H2) : Up G H G2 H2 :=
  ⟨a.g.trans b.g, a.h.trans b.h, b.gh, fun x hx hg => b.sep x (fun z => hx (a.h.back z)) (a.sep x hx hg)⟩
/-- a new object that is stable from now on -/
theorem Up.newG {G H : Hp} {p : Addr} {o : HO} (e : Ex G H) (h : H p = none) : Up G H (upd G p o) (upd H p o) := by
  have g := e.back h
  refine ⟨Ex.new g, Ex.new h, fun a u q => ?_, fun a ha hg => ?_⟩
  · by_cases z : a = p
    · subst z; rw [upd_same] at q ⊢; exact q
    · rw [upd_ne z] at q ⊢; exact e a u q
  · rw [upd_ne (fun z => ha (by rw [z]; exact h))]; exact hg
/-- a new object of one's own -/
theorem Up.newH {G H : Hp} {p : Addr} {o : HO} (e : Ex G H) (h : H p = none) : Up G H G (upd H p o) :=
  ⟨Ex.refl _, Ex.new h, e.trans (Ex.new h), fun _ _ g => g⟩

/-- all that is new is stable from now on -/
def frzAll (Hs G H : Hp) : Hp := fun a => if Hs a = none then H a else G a
theorem frzAll_ex {Hs G H : Hp} (e : Ex G H) : Ex G (frzAll Hs G H) := fun a o h => by
  unfold frzAll; split
  · exact e a o h
  · exact h
theorem frzAll_up {Gs Hs G H : Hp} (u : Up Gs Hs G H) : Up Gs Hs (frzAll Hs G H) H := by
  refine ⟨u.g.trans (frzAll_ex u.gh), u.h, fun a o h => ?_, fun a ha hg => ?_⟩
  · unfold frzAll at h; split at h
    · exact h
    · exact u.gh a o h
  · unfold frzAll; rw [if_neg ha]; exact u.sep a ha hg
theorem frzAll_new {Hs G H : Hp} {p : Addr} (h : Hs p = none) : frzAll Hs G H p = H p := by
  unfold frzAll; rw [if_pos h]

/-! ### a value is data -/
/-- the written part, the world -/
structure KW where
  k : PySem.W.Frag
  w : World
instance : Coe KW PySem.W.Frag := ⟨KW.k⟩
@[reducible] def kw (X : Cx) : KW := ⟨X.K, X.w⟩
/-- a text that fits -/
def okS (x : Str) : Prop := x.length ≤ sizeLine ∧ PyData.strOk x = true
/-- a key of a dict, as the model carries it -/
def keyD : Key → PyData
  | .inl i => .int i
  | .inr x => .str x
mutual
def nkOf : PyData → Option NestedKey
  | .none => some .none
  | .int i => some (.num i)
  | .str x => some (.text x)
  | .tuple xs => (nkAll xs).map .tup
  | _ => none
def nkAll : List PyData → Option (List NestedKey)
  | [] => some []
  | x :: xs => match nkOf x, nkAll xs with
    | some k, some ks => some (k :: ks)
    | _, _ => none
end
/-- an object, known as it stands -/
abbrev rawO (a : Addr) (o : Obj) : HO := .ext fun h => h.get? a = some o
/-- what is true of a dict's object with the keys ks -/
structure DRaw (w : World) (a : Addr) (o : Obj) (es : Array DictEntry) (ep : Nat) (ks : List PyData) : Prop where
  ex : o.ExactDict
  dt : o.data = .dict es ep
  sz : es.size ≤ sizeLine
  sm : (a == sysModules) = false
  nd : (ks.map nkOf).Nodup
  hs : ∃ nks : List NestedKey, ks.map nkOf = nks.map some ∧ (∀ k ∈ nks, k.depth ≤ 8) ∧ es.toList.map (·.hash) = nks.map fun k => k.hash w
abbrev dkeys (kvs : List (PyData × PyData)) : List PyData := kvs.map (·.1)
abbrev dvals (kvs : List (PyData × PyData)) : List PyData := kvs.map (·.2)
/-- the tuple at a has no dict -/
def TupD (K : PySem.W.Frag) (G : Hp) (a : Addr) : Prop := (∃ o u, G a = some (.frz o u) ∧ o.dict = none) ∨ ∃ o, K.lookup a = some o ∧ o.dict = none
theorem TupD.up {K : PySem.W.Frag} {G G' : Hp} {a : Addr} (e : Ex G G') (h : TupD K G a) : TupD K G' a := by
  rcases h with ⟨o, u, h, d⟩ | h
  · exact .inl ⟨o, u, e _ _ h, d⟩
  · exact .inr h
mutual
inductive Is (K : KW) (G : Hp) : V → PyData → Prop
  | non : Is K G .non .none
  | bl (b : Bool) : Is K G (.bl b) (.bool b)
  | int (i : Int) : Is K G (.int i) (.int i)
  | str (x : Str) (h : okS x) : Is K G (.str x) (.str x)
  | lst {a : Addr} {xs : List V} {ds : List PyData} : G a = some (.lst xs) → ds.length ≤ sizeLine → IsAll K G xs ds → Is K G (.ref a) (.list ds)
  | tup {a : Addr} {xs : List V} {ds : List PyData} : SqT K G a xs → TupD K G a → ds.length ≤ sizeLine → IsAll K G xs ds → Is K G (.ref a) (.tuple ds)
  | dct {a : Addr} {o : Obj} {es : Array DictEntry} {ep : Nat} {bs vals : List V} {kvs : List (PyData × PyData)} : G a = some (rawO a o) → DRaw K.w a o es ep (dkeys kvs) → Vals bs (es.toList.map (·.key)) → IsAll K G bs (dkeys kvs) → Vals vals (es.toList.map (·.val)) → IsAll K G vals (dvals kvs) → Is K G (.ref a) (.dict kvs)
inductive IsAll (K : KW) (G : Hp) : List V → List PyData → Prop
  | nil : IsAll K G [] []
  | cons {v : V} {vs : List V} {d : PyData} {ds : List PyData} : Is K G v d → IsAll K G vs ds → IsAll K G (v :: vs) (d :: ds)
end
mutual
/-- no dict in it -/
def noDct : PyData → Bool
  | .list xs => noDcts xs
  | .tuple xs => noDcts xs
  | .dict _ => false
  | _ => true
def noDcts : List PyData → Bool
  | [] => true
  | x :: xs => noDct x && noDcts xs
end
section
variable {K : KW} {G G' : Hp}
mutual
theorem Is.up (e : Ex G G') : ∀ {v : V} {d : PyData}, Is K G v d → Is K G' v d
  | _, _, .non => .non
  | _, _, .bl b => .bl b
  | _, _, .int i => .int i
  | _, _, .str x z => .str x z
  | _, _, .lst hs z ha => .lst (e _ _ hs) z (IsAll.up e ha)
  | _, _, .tup hs hd z ha => .tup (e.sqT hs) (hd.up e) z (IsAll.up e ha)
  | _, _, .dct hs hr v1 h1 v2 h2 => .dct (e _ _ hs) hr v1 (IsAll.up e h1) v2 (IsAll.up e h2)
theorem IsAll.up (e : Ex G G') : ∀ {vs : List V} {ds : List PyData}, IsAll K G vs ds → IsAll K G' vs ds
  | _, _, .nil => .nil
  | _, _, .cons a b => .cons (Is.up e a) (IsAll.up e b)
end
/-- a new tuple is data -/
theorem Is.newT {p : Addr} {o : Obj} {xs : List V} {ds : List PyData} (d : o.dict = none) (g : G p = none) (z : ds.length ≤ sizeLine) (al : IsAll K G xs ds) : Is K (upd G p (.frz o (.tup xs))) (.ref p) (.tuple ds) :=
  .tup (.inl (.inr ⟨o, upd_same⟩)) (.inl ⟨o, _, upd_same, d⟩) z (IsAll.up (Ex.new g) al)
theorem Is.mono (e : Ex G G') (d : PyData) (v : V) (h : Is K G v d) : Is K G' v d := Is.up e h
theorem IsAll.mono (e : Ex G G') (d : List PyData) (v : List V) (h : IsAll K G v d) : IsAll K G' v d := IsAll.up e h
mutual
theorem Is.dp : ∀ {v : V} {d : PyData}, Is K G v d → noDct d = true → Dp K G v d
  | _, _, .non, _ => .non
  | _, _, .bl b, _ => .bl b
  | _, _, .int i, _ => .int i
  | _, _, .str x z, _ => .str x
  | _, _, .lst hs z ha, h => .lst (SqL.of hs) (IsAll.dp ha (by simpa only [noDct] using h))
  | _, _, .tup hs _ z ha, h => .tup hs (IsAll.dp ha (by simpa only [noDct] using h))
  | _, _, .dct _ _ _ _ _ _, h => by simp [noDct] at h
theorem IsAll.dp : ∀ {vs : List V} {ds : List PyData}, IsAll K G vs ds → noDcts ds = true → DpAll K G vs ds
  | _, _, .nil, _ => .nil
  | _, _, .cons a b, h => by
    rw [noDcts, Bool.and_eq_true] at h
    exact .cons (Is.dp a h.1) (IsAll.dp b h.2)
end
mutual
theorem Is.lay : ∀ {v : V} {d : PyData}, Is K G v d → noDct d = true → d.canLay0 = true
  | _, _, .non, _ => by simp [PyData.canLay0]
  | _, _, .bl b, _ => by simp [PyData.canLay0]
  | _, _, .int i, _ => by simp [PyData.canLay0]
  | _, _, .str x z, _ => by simp only [PyData.canLay0]; exact z.2
  | _, _, .lst hs z ha, h => by simp only [PyData.canLay0]; exact IsAll.lay ha (by simpa only [noDct] using h)
  | _, _, .tup hs _ z ha, h => by simp only [PyData.canLay0]; exact IsAll.lay ha (by simpa only [noDct] using h)
  | _, _, .dct _ _ _ _ _ _, h => by simp [noDct] at h
theorem IsAll.lay : ∀ {vs : List V} {ds : List PyData}, IsAll K G vs ds → noDcts ds = true → PyData.canLayAll0 ds = true
  | _, _, .nil, _ => by simp [PyData.canLayAll0]
  | _, _, .cons a b, h => by
    rw [noDcts, Bool.and_eq_true] at h
    simp only [PyData.canLayAll0, Bool.and_eq_true]; exact ⟨Is.lay a h.1, IsAll.lay b h.2⟩
end
theorem IsAll.len : ∀ {ds : List PyData} {vs : List V}, IsAll K G vs ds → vs.length = ds.length
  | [], _, h => by cases h; rfl
  | d :: ds, _, h => by cases h with | cons h1 h2 => simp [IsAll.len h2]
theorem IsAll.get : ∀ {ds : List PyData} {vs : List V} {i : Nat} {d : PyData}, IsAll K G vs ds → ds[i]? = some d → ∃ v, vs[i]? = some v ∧ Is K G v d
  | [], _, _, _, _, h => by simp at h
  | x :: ds, _, 0, d, h, e => by
    cases h with | cons h1 h2 =>
    have q : x = d := by simpa using e
    subst q; exact ⟨_, rfl, h1⟩
  | x :: ds, _, i + 1, d, h, e => by
    cases h with | cons h1 h2 =>
    obtain ⟨v, a, b⟩ := IsAll.get (i := i) h2 (by simpa using e)
    exact ⟨v, by simpa using a, b⟩
theorem IsAll.getV : ∀ {ds : List PyData} {vs : List V} {i : Nat} {v : V}, IsAll K G vs ds → vs[i]? = some v → ∃ d, ds[i]? = some d ∧ Is K G v d := fun {ds vs i v} h e => by
  have hl := h.len
  have hi : i < ds.length := by rw [← hl]; exact (List.getElem?_eq_some_iff.mp e).1
  obtain ⟨v', e', q⟩ := h.get (List.getElem?_eq_getElem hi)
  rw [e] at e'; cases e'
  exact ⟨_, List.getElem?_eq_getElem hi, q⟩
theorem IsAll.append : ∀ {ds es : List PyData} {vs ws : List V}, IsAll K G vs ds → IsAll K G ws es → IsAll K G (vs ++ ws) (ds ++ es)
  | [], _, _, _, h, k => by cases h; exact k
  | d :: ds, _, _, _, h, k => by cases h with | cons h1 h2 => exact .cons h1 (IsAll.append h2 k)
theorem IsAll.one {v : V} {d : PyData} (h : Is K G v d) : IsAll K G [v] [d] := .cons h .nil
theorem IsAll.take : ∀ (n : Nat) {ds : List PyData} {vs : List V}, IsAll K G vs ds → IsAll K G (vs.take n) (ds.take n)
  | 0, _, _, _ => by simp; exact .nil
  | n + 1, [], _, h => by cases h; exact .nil
  | n + 1, d :: ds, _, h => by cases h with | cons h1 h2 => exact .cons h1 (IsAll.take n h2)
theorem IsAll.drop : ∀ (n : Nat) {ds : List PyData} {vs : List V}, IsAll K G vs ds → IsAll K G (vs.drop n) (ds.drop n)
  | 0, _, _, h => h
  | n + 1, [], _, h => by cases h; exact .nil
  | n + 1, d :: ds, _, h => by cases h with | cons h1 h2 => exact IsAll.drop n h2
theorem IsAll.rev {ds : List PyData} {vs : List V} (h : IsAll K G vs ds) : IsAll K G vs.reverse ds.reverse := by
  induction ds generalizing vs with
  | nil => cases h; exact .nil
  | cons d ds ih => cases h with | cons h1 h2 => rw [List.reverse_cons, List.reverse_cons]; exact (ih h2).append (.one h1)
theorem IsAll.set : ∀ (i : Nat) {ds : List PyData} {vs : List V} {v : V} {d : PyData}, IsAll K G vs ds → Is K G v d → IsAll K G (vs.set i v) (ds.set i d)
  | _, [], _, _, _, h, _ => by cases h; exact .nil
  | 0, d :: ds, _, _, _, h, k => by cases h with | cons h1 h2 => exact .cons k h2
  | i + 1, d :: ds, _, _, _, h, k => by cases h with | cons h1 h2 => exact .cons h1 (IsAll.set i h2 k)
theorem IsAll.erase : ∀ (i : Nat) {ds : List PyData} {vs : List V}, IsAll K G vs ds → IsAll K G (vs.eraseIdx i) (ds.eraseIdx i)
  | _, [], _, h => by cases h; exact .nil
  | 0, d :: ds, _, h => by cases h with | cons h1 h2 => exact h2
  | i + 1, d :: ds, _, h => by cases h with | cons h1 h2 => exact .cons h1 (IsAll.erase i h2)
theorem IsAll.ints : ∀ {ns : List Int} {vs : List V}, IsAll K G vs (ns.map .int) → vs = ns.map V.int
  | [], _, h => by cases h; rfl
  | n :: ns, _, h => by
    cases h with | cons h1 h2 =>
    cases h1
    rw [IsAll.ints h2]; rfl
theorem IsAll.bools : ∀ {ns : List Bool} {vs : List V}, IsAll K G vs (ns.map .bool) → vs = ns.map V.bl
  | [], _, h => by cases h; rfl
  | n :: ns, _, h => by
    cases h with | cons h1 h2 =>
    cases h1
    rw [IsAll.bools h2]; rfl
theorem IsAll.strs : ∀ {ns : List Str} {vs : List V}, IsAll K G vs (ns.map .str) → vs = ns.map V.str
  | [], _, h => by cases h; rfl
  | n :: ns, _, h => by
    cases h with | cons h1 h2 =>
    cases h1
    rw [IsAll.strs h2]; rfl
theorem IsAll.ofInts : ∀ (ns : List Int), IsAll K G (ns.map V.int) (ns.map .int)
  | [] => .nil
  | n :: ns => .cons (.int n) (IsAll.ofInts ns)
end


/-! ### the draws: a list of ints, none below 0, whatever they are -/
def DrwOk (ns : List Int) : Prop := ns.length ≤ 100000 ∧ ∀ x ∈ ns, 0 ≤ x
def drwPhi (p : Addr) : Heap → Prop := fun h => ∃ (ns : List Int) (its : List Value) (n : Nat), DrwOk ns ∧ Vals (ns.map V.int) its ∧ h.get? p = some { cls := .type "list", data := .seq its.toArray n }
abbrev drwO (p : Addr) : HO := .ext (drwPhi p)

/-- dicts: an own one (values data; values own lists), one handed in, an own one that is read -/
inductive WX where
  | m (kvs : List (PyData × PyData)) | ml (kvs : List (PyData × List PyData)) | bm (kvs : List (PyData × PyData)) | rm (kvs : List (PyData × PyData)) | rml (kvs : List (PyData × List PyData))
/-- what a slot, or a value, is known to be: data; an own list; a list handed in; an own list that is read; the draws; a dict -/
inductive W where
  | d (x : PyData) | l (xs : List PyData) | b (xs : List PyData) | r (xs : List PyData) | drw | x (y : WX)
abbrev En := List (Option W)
/-- a dict object: its keys as data, its values -/
def DRel (K : KW) (G H : Hp) (a : Addr) (ks : List PyData) (vals : List V) : Prop :=
  ∃ o es ep bs, H a = some (rawO a o) ∧ DRaw K.w a o es ep ks ∧ Vals bs (es.toList.map (·.key)) ∧ IsAll K G bs ks ∧ Vals vals (es.toList.map (·.val))
/-- lists -/
inductive Lsts (K : KW) (G H : Hp) : List Addr → List (List PyData) → Prop
  | nil : Lsts K G H [] []
  | cons {l : Addr} {ls : List Addr} {vs : List V} {xs : List PyData} {xss : List (List PyData)} : H l = some (.lst vs) → xs.length ≤ sizeLine → IsAll K G vs xs → Lsts K G H ls xss → Lsts K G H (l :: ls) (xs :: xss)
abbrev lkeys (kvs : List (PyData × List PyData)) : List PyData := kvs.map (·.1)
abbrev lvals (kvs : List (PyData × List PyData)) : List (List PyData) := kvs.map (·.2)
def RX (K : KW) (H0 Hs G H : Hp) (P : Addr → Prop) (v : V) : WX → Prop
  | .m kvs => ∃ p vals, v = .ref p ∧ Hs p = none ∧ G p = none ∧ P p ∧ DRel K G H p (dkeys kvs) vals ∧ IsAll K G vals (dvals kvs)
  | .ml kvs => ∃ p ls, v = .ref p ∧ Hs p = none ∧ G p = none ∧ P p ∧ DRel K G H p (lkeys kvs) (ls.map .ref) ∧ Lsts K G H ls (lvals kvs) ∧ (∀ l ∈ ls, Hs l = none ∧ G l = none ∧ P l) ∧ (p :: ls).Nodup
  | .bm kvs => ∃ p vals, v = .ref p ∧ DRel K G H0 p (dkeys kvs) vals ∧ IsAll K G vals (dvals kvs)
  | .rm kvs => ∃ p vals, v = .ref p ∧ DRel K G H p (dkeys kvs) vals ∧ IsAll K G vals (dvals kvs)
  | .rml kvs => ∃ p ls, v = .ref p ∧ DRel K G H p (lkeys kvs) (ls.map .ref) ∧ Lsts K G H ls (lvals kvs)

/-- a value behind an expression that began at the heap Hs, in a def that was entered at H0; P: whose it is -/
def RP (K : KW) (H0 Hs G H : Hp) (P : Addr → Prop) (v : V) : W → Prop
  | .d x => Is K G v x
  | .l xs => ∃ p vs, v = .ref p ∧ Hs p = none ∧ G p = none ∧ P p ∧ H p = some (.lst vs) ∧ xs.length ≤ sizeLine ∧ IsAll K G vs xs
  | .b xs => ∃ p vs, v = .ref p ∧ SqL K H0 p vs ∧ xs.length ≤ sizeLine ∧ IsAll K G vs xs
  | .r xs => ∃ p vs, v = .ref p ∧ H p = some (.lst vs) ∧ xs.length ≤ sizeLine ∧ IsAll K G vs xs
  | .drw => ∃ p, v = .ref p ∧ G p = some (drwO p)
  | .x y => RX K H0 Hs G H P v y
abbrev RR (K : KW) (H0 Hs G H : Hp) (v : V) (w : W) : Prop := RP K H0 Hs G H (fun _ => True) v w
/-- a slot -/
def SP (K : KW) (H0 G H : Hp) (P : Addr → Prop) (v : V) (w : W) : Prop := RP K H0 H0 G H P v w ∧ (∀ xs, w ≠ .r xs) ∧ (∀ xs, w ≠ .x (.rm xs)) ∧ ∀ xs, w ≠ .x (.rml xs)
abbrev SR (K : KW) (H0 G H : Hp) (v : V) (w : W) : Prop := SP K H0 G H (fun _ => True) v w

/-- each slot owns what is its own: no two own the same -/
structure DEnv (K : KW) (G0 H0 G H : Hp) (σ : L2.St) (ρ : En) : Prop where
  up : Up G0 H0 G H
  own : ∃ ow : Addr → Option Nat, (∀ a, ow a ≠ none → H a ≠ none ∧ H0 a = none ∧ G a = none) ∧ ∀ (i : Nat) (w : W), ρ[i]? = some (some w) → ∃ v, σ[i]? = some (some v) ∧ SP K H0 G H (fun a => ow a = some i) v w
  len : ρ.length = σ.length

section
variable {K : KW} {G0 H0 Hs G H G' H' : Hp} {σ : L2.St} {ρ : En} {v : V} {w : W} {P P' : Addr → Prop}
theorem DRel.up {a : Addr} {ks : List PyData} {vals : List V} (h : DRel K G H a ks vals) (g : Ex G G') (e : ∀ o, H a = some o → H' a = some o) : DRel K G' H' a ks vals := by
  obtain ⟨o, es, ep, bs, h1, h2, h3, h4, h5⟩ := h
  exact ⟨o, es, ep, bs, e _ h1, h2, h3, h4.up g, h5⟩
theorem DRel.ne {a : Addr} {ks : List PyData} {vals : List V} (h : DRel K G H a ks vals) : H a ≠ none := by
  obtain ⟨o, es, ep, bs, h1, _⟩ := h
  rw [h1]; exact fun z => nomatch z
theorem DRel.is {a : Addr} {kvs : List (PyData × PyData)} {vals : List V} (h : DRel K G G a (dkeys kvs) vals) (hv : IsAll K G vals (dvals kvs)) : Is K G (.ref a) (.dict kvs) := by
  obtain ⟨o, es, ep, bs, h1, h2, h3, h4, h5⟩ := h
  exact .dct h1 h2 h3 h4 h5 hv
theorem Is.inD {kvs : List (PyData × PyData)} (h : Is K G v (.dict kvs)) : ∃ p vals, v = .ref p ∧ DRel K G G p (dkeys kvs) vals ∧ IsAll K G vals (dvals kvs) := by
  cases h with
  | dct h1 h2 h3 h4 h5 h6 => exact ⟨_, _, rfl, ⟨_, _, _, _, h1, h2, h3, h4, h5⟩, h6⟩
theorem Lsts.up {ls : List Addr} {xss : List (List PyData)} (h : Lsts K G H ls xss) (g : Ex G G') : (∀ a ∈ ls, ∀ o, H a = some o → H' a = some o) → Lsts K G' H' ls xss := by
  induction h with
  | nil => exact fun _ => .nil
  | cons h1 h2 h3 _ ih => exact fun e => .cons (e _ (by simp) _ h1) h2 (h3.up g) (ih fun a ha => e a (List.mem_cons_of_mem _ ha))
theorem Lsts.len {ls : List Addr} {xss : List (List PyData)} (h : Lsts K G H ls xss) : ls.length = xss.length := by
  induction h with
  | nil => rfl
  | cons _ _ _ _ ih => simp [ih]
theorem Lsts.ne {ls : List Addr} {xss : List (List PyData)} (h : Lsts K G H ls xss) : ∀ a ∈ ls, H a ≠ none := by
  induction h with
  | nil => intro a ha; cases ha
  | cons h1 _ _ _ ih =>
    intro a ha
    rcases List.mem_cons.mp ha with e | e
    · subst e; rw [h1]; exact fun z => nomatch z
    · exact ih a e
theorem Lsts.frz {ls : List Addr} {xss : List (List PyData)} (h : Lsts K G G ls xss) : IsAll K G (ls.map .ref) (xss.map .list) := by
  induction h with
  | nil => exact .nil
  | cons h1 h2 h3 _ ih => exact .cons (.lst h1 h2 h3) ih
/-- the heap grows, what is owned stays -/
theorem RP.up' (h : RP K H0 Hs G H P v w) (g : Ex G G') (keep : ∀ a o, H a = some o → H' a = some o) (sep : ∀ a, H a ≠ none → G a = none → G' a = none) : RP K H0 Hs G' H' P v w := by
  cases w with
  | d x => exact Is.up g h
  | l xs =>
    obtain ⟨p, vs, e, h1, h2, hp, h3, z, h4⟩ := h
    exact ⟨p, vs, e, h1, sep p (by rw [h3]; exact fun z => nomatch z) h2, hp, keep p _ h3, z, h4.up g⟩
  | b xs =>
    obtain ⟨p, vs, e, h1, z, h4⟩ := h
    exact ⟨p, vs, e, h1, z, h4.up g⟩
  | r xs =>
    obtain ⟨p, vs, e, h1, z, h4⟩ := h
    exact ⟨p, vs, e, keep p _ h1, z, h4.up g⟩
  | drw => obtain ⟨p, e, h1⟩ := h; exact ⟨p, e, g p _ h1⟩
  | x y =>
    cases y with
    | m kvs =>
      obtain ⟨p, vals, e, h1, h2, hp, h3, h4⟩ := h
      exact ⟨p, vals, e, h1, sep p h3.ne h2, hp, h3.up g (keep p), h4.up g⟩
    | ml kvs =>
      obtain ⟨p, ls, e, h1, h2, hp, h3, h4, h5, h6⟩ := h
      exact ⟨p, ls, e, h1, sep p h3.ne h2, hp, h3.up g (keep p), h4.up g fun a _ => keep a, fun l hl => ⟨(h5 l hl).1, sep l (h4.ne l hl) (h5 l hl).2.1, (h5 l hl).2.2⟩, h6⟩
    | bm kvs =>
      obtain ⟨p, vals, e, h3, h4⟩ := h
      exact ⟨p, vals, e, h3.up g fun _ z => z, h4.up g⟩
    | rm kvs =>
      obtain ⟨p, vals, e, h3, h4⟩ := h
      exact ⟨p, vals, e, h3.up g (keep p), h4.up g⟩
    | rml kvs =>
      obtain ⟨p, ls, e, h3, h4⟩ := h
      exact ⟨p, ls, e, h3.up g (keep p), h4.up g fun a _ => keep a⟩
theorem RP.up (h : RP K H0 Hs G H P v w) (u : Up G H G' H') : RP K H0 Hs G' H' P v w := h.up' u.g u.h u.sep
theorem SP.up (h : SP K H0 G H P v w) (u : Up G H G' H') : SP K H0 G' H' P v w := ⟨RP.up h.1 u, h.2⟩
theorem RR.up (h : RR K H0 Hs G H v w) (u : Up G H G' H') : RR K H0 Hs G' H' v w := RP.up h u
theorem SR.up (h : SR K H0 G H v w) (u : Up G H G' H') : SR K H0 G' H' v w := SP.up h u
/-- an earlier start, another owner -/
theorem RP.weak {Hz : Hp} (h : RP K H0 Hs G H P v w) (e : ∀ a, Hs a = none → Hz a = none) (f : ∀ a, Hs a = none → H a ≠ none → G a = none → P a → P' a) : RP K H0 Hz G H P' v w := by
  cases w with
  | l xs =>
    obtain ⟨p, vs, e1, h1, h2, hp, h3, h4⟩ := h
    exact ⟨p, vs, e1, e p h1, h2, f p h1 (by rw [h3]; exact fun z => nomatch z) h2 hp, h3, h4⟩
  | x y =>
    cases y with
    | m kvs =>
      obtain ⟨p, vals, e1, h1, h2, hp, h3, h4⟩ := h
      exact ⟨p, vals, e1, e p h1, h2, f p h1 h3.ne h2 hp, h3, h4⟩
    | ml kvs =>
      obtain ⟨p, ls, e1, h1, h2, hp, h3, h4, h5, h6⟩ := h
      exact ⟨p, ls, e1, e p h1, h2, f p h1 h3.ne h2 hp, h3, h4, fun l hl => ⟨e l (h5 l hl).1, (h5 l hl).2.1, f l (h5 l hl).1 (h4.ne l hl) (h5 l hl).2.1 (h5 l hl).2.2⟩, h6⟩
    | _ => exact h
  | _ => exact h
theorem RR.at {Hz : Hp} (h : RR K H0 Hs G H v w) (e : Ex Hz Hs) : RR K H0 Hz G H v w := RP.weak h (fun a => e.back) fun _ _ _ _ _ => trivial
theorem SP.any (h : SP K H0 G H P v w) : SR K H0 G H v w := ⟨RP.weak h.1 (fun _ z => z) fun _ _ _ _ _ => trivial, h.2⟩
theorem DEnv.slot (E : DEnv K G0 H0 G H σ ρ) (i : Nat) (w : W) (h : ρ[i]? = some (some w)) : ∃ v, σ[i]? = some (some v) ∧ SR K H0 G H v w := by
  obtain ⟨ow, _, h2⟩ := E.own
  obtain ⟨v, a, b⟩ := h2 i w h
  exact ⟨v, a, b.any⟩
theorem DEnv.gh (E : DEnv K G0 H0 G H σ ρ) : Ex G H := E.up.gh
theorem DEnv.to (E : DEnv K G0 H0 G H σ ρ) (u : Up G H G' H') : DEnv K G0 H0 G' H' σ ρ := by
  obtain ⟨ow, h1, h2⟩ := E.own
  refine ⟨E.up.trans u, ⟨ow, fun a ha => ?_, fun i w h => ?_⟩, E.len⟩
  · obtain ⟨a1, a2, a3⟩ := h1 a ha
    refine ⟨fun z => a1 (u.h.back z), a2, u.sep a a1 a3⟩
  · obtain ⟨v, a, b⟩ := h2 i w h
    exact ⟨v, a, b.up u⟩
/-- what may be laid into a tuple, a list: as data -/
def frzW : W → Option PyData
  | .d x => some x
  | .l xs => some (.list xs)
  | .x (.m kvs) => some (.dict kvs)
  | .x (.ml kvs) => some (.dict (kvs.map fun p => (p.1, .list p.2)))
  | _ => none
theorem lkeys_d (kvs : List (PyData × List PyData)) : dkeys (kvs.map fun p => (p.1, PyData.list p.2)) = lkeys kvs := by unfold dkeys lkeys; rw [List.map_map]; rfl
theorem lvals_d (kvs : List (PyData × List PyData)) : dvals (kvs.map fun p => (p.1, PyData.list p.2)) = (lvals kvs).map .list := by unfold dvals lvals; rw [List.map_map, List.map_map]; rfl
/-- what is owned is stable from now on -/
theorem RP.frz' {x : PyData} (h : RP K H0 Hs G H P v w) (g : Ex G G') (e : frzW w = some x) (f : ∀ a, Hs a = none → P a → G' a = H a) : Is K G' v x := by
  cases w with
  | d y => cases e; exact Is.up g h
  | l xs =>
    cases e
    obtain ⟨p, vs, rfl, h1, h2, hp, h3, z, h4⟩ := h
    exact .lst (xs := vs) (by rw [f p h1 hp]; exact h3) z (h4.up g)
  | b xs => cases e
  | r xs => cases e
  | drw => cases e
  | x y =>
    cases y with
    | m kvs =>
      cases e
      obtain ⟨p, vals, rfl, h1, h2, hp, h3, h4⟩ := h
      exact (h3.up g fun o z => by rw [f p h1 hp]; exact z).is (h4.up g)
    | ml kvs =>
      cases e
      obtain ⟨p, ls, rfl, h1, h2, hp, h3, h4, h5, h6⟩ := h
      have d1 : DRel K G' G' p (lkeys kvs) (ls.map .ref) := h3.up g fun o z => by rw [f p h1 hp]; exact z
      have d2 : Lsts K G' G' ls (lvals kvs) := h4.up g fun a ha o z => by rw [f a (h5 a ha).1 (h5 a ha).2.2]; exact z
      rw [← lkeys_d] at d1
      exact d1.is (by rw [lvals_d]; exact d2.frz)
    | _ => cases e
theorem RR.frz {x : PyData} (h : RR K H0 Hs G H v w) (gh : Ex G H) (e : frzW w = some x) : Is K (frzAll Hs G H) v x := RP.frz' h (frzAll_ex gh) e fun a ha _ => frzAll_new ha
/-- a list that is read, whatever it is -/
def asL : W → Option (List PyData)
  | .d (.list xs) => some xs
  | .l xs => some xs
  | .b xs => some xs
  | .r xs => some xs
  | _ => none
theorem RR.asL {xs : List PyData} (h : RR K H0 Hs G H v w) (E : DEnv K G0 H0 G H σ ρ) (e : asL w = some xs) : ∃ p vs, v = .ref p ∧ SqL K H p vs ∧ xs.length ≤ sizeLine ∧ IsAll K G vs xs := by
  cases w with
  | d y =>
    cases y <;> cases e
    cases h with | lst hs z ha => exact ⟨_, _, rfl, SqL.of (E.gh _ _ hs), z, ha⟩
  | l ys =>
    cases e
    obtain ⟨p, vs, rfl, h1, h2, _, h3, z, h4⟩ := h
    exact ⟨p, vs, rfl, SqL.of h3, z, h4⟩
  | b ys =>
    cases e
    obtain ⟨p, vs, rfl, h1, z, h4⟩ := h
    exact ⟨p, vs, rfl, E.up.h.sqL h1, z, h4⟩
  | r ys =>
    cases e
    obtain ⟨p, vs, rfl, h3, z, h4⟩ := h
    exact ⟨p, vs, rfl, SqL.of h3, z, h4⟩
  | drw => cases e
  | x y => cases e
/-- a list or a tuple that is read -/
def asQ : W → Option (List PyData)
  | .d (.tuple xs) => some xs
  | w => asL w
theorem RR.asQ {xs : List PyData} (h : RR K H0 Hs G H v w) (E : DEnv K G0 H0 G H σ ρ) (e : asQ w = some xs) : ∃ p vs, v = .ref p ∧ (SqL K H p vs ∨ SqT K H p vs) ∧ xs.length ≤ sizeLine ∧ IsAll K G vs xs := by
  cases w with
  | d y =>
    cases y with
    | tuple ys =>
      cases e
      cases h with | tup hs _ z ha => exact ⟨_, _, rfl, .inr (E.gh.sqT hs), z, ha⟩
    | _ => obtain ⟨p, vs, a, b, c⟩ := RR.asL h E e; exact ⟨p, vs, a, .inl b, c⟩
  | _ => obtain ⟨p, vs, a, b, c⟩ := RR.asL h E e; exact ⟨p, vs, a, .inl b, c⟩
/-- as data at the heap as it is -/
def asD : W → Option PyData
  | .d x => some x
  | .l xs => some (.list xs)
  | .b xs => some (.list xs)
  | .r xs => some (.list xs)
  | .drw => none
  | .x _ => none
theorem RR.lay {x : PyData} (h : RR K H0 Hs G H v w) (e : asD w = some x) (n : noDct x = true) : x.canLay0 = true := by
  have f : ∀ {xs : List PyData} {vs : List V}, noDct (.list xs) = true → IsAll K G vs xs → (PyData.list xs).canLay0 = true := fun n a => by simp only [PyData.canLay0]; exact IsAll.lay a (by simpa only [noDct] using n)
  cases w with
  | d y => cases e; exact Is.lay h n
  | drw => cases e
  | x y => cases e
  | l ys => cases e; obtain ⟨p, vs, _, _, _, _, _, _, a⟩ := h; exact f n a
  | b ys => cases e; obtain ⟨p, vs, _, _, _, a⟩ := h; exact f n a
  | r ys => cases e; obtain ⟨p, vs, _, _, _, a⟩ := h; exact f n a
/-- a list that is read and stands in the heap itself -/
def asM : W → Option (List PyData)
  | .d (.list xs) => some xs
  | .l xs => some xs
  | .r xs => some xs
  | _ => none
theorem RR.asM {xs : List PyData} (h : RR K H0 Hs G H v w) (E : DEnv K G0 H0 G H σ ρ) (e : asM w = some xs) : ∃ p vs, v = .ref p ∧ H p = some (.lst vs) ∧ xs.length ≤ sizeLine ∧ IsAll K G vs xs := by
  cases w with
  | d y =>
    cases y <;> cases e
    cases h with | lst hs z ha => exact ⟨_, _, rfl, E.gh _ _ hs, z, ha⟩
  | l ys =>
    cases e
    obtain ⟨p, vs, rfl, h1, h2, _, h3, z, h4⟩ := h
    exact ⟨p, vs, rfl, h3, z, h4⟩
  | b ys => cases e
  | r ys =>
    cases e
    obtain ⟨p, vs, rfl, h3, z, h4⟩ := h
    exact ⟨p, vs, rfl, h3, z, h4⟩
  | drw => cases e
  | x y => cases e
theorem RR.asD {x : PyData} (h : RR K H0 Hs G H v w) (E : DEnv K G0 H0 G H σ ρ) (e : asD w = some x) (n : noDct x = true) : Dp K H v x := by
  cases w with
  | d y => cases e; exact Is.dp (Is.up E.gh h) n
  | drw => cases e
  | x y => cases e
  | l ys =>
    cases e
    obtain ⟨p, vs, rfl, a, z, c⟩ := RR.asL h E rfl
    exact .lst a (IsAll.dp (c.up E.gh) (by simpa only [noDct] using n))
  | b ys =>
    cases e
    obtain ⟨p, vs, rfl, a, z, c⟩ := RR.asL h E rfl
    exact .lst a (IsAll.dp (c.up E.gh) (by simpa only [noDct] using n))
  | r ys =>
    cases e
    obtain ⟨p, vs, rfl, a, z, c⟩ := RR.asL h E rfl
    exact .lst a (IsAll.dp (c.up E.gh) (by simpa only [noDct] using n))
/-- what a value owns -/
theorem RP.foot (h : RP K H0 Hs G H P v w) : ∃ fp : Addr → Prop, RP K H0 Hs G H (fun a => fp a) v w ∧ ∀ a, fp a → Hs a = none ∧ G a = none ∧ H a ≠ none ∧ P a := by
  refine ⟨fun a => Hs a = none ∧ G a = none ∧ H a ≠ none ∧ P a, ?_, fun a z => z⟩
  exact h.weak (fun _ z => z) fun a h1 h2 h3 h4 => ⟨h1, h3, h2, h4⟩
/-- may stand in a slot -/
def okW (w : W) : Prop := (∀ xs, w ≠ .r xs) ∧ (∀ xs, w ≠ .x (.rm xs)) ∧ ∀ xs, w ≠ .x (.rml xs)
open Classical in
/-- a slot set to a value -/
theorem DEnv.set (E : DEnv K G0 H0 G H σ ρ) {Hz : Hp} {Gz : Hp} (Ez : DEnv K G0 H0 Gz Hz σ ρ) (u : Up Gz Hz G H) (i : Nat) (hi : i < σ.length) (h : RR K H0 Hz G H v w) (hb : okW w) : DEnv K G0 H0 G H (σ.set i (some v)) (ρ.set i (some w)) := by
  have hir : i < ρ.length := by rw [E.len]; exact hi
  obtain ⟨ow, h1, h2⟩ := Ez.own
  obtain ⟨fp, hf, f1⟩ := RP.foot h
  have ne : ∀ a, fp a → ow a = none := fun a ha => by
    cases e : ow a with
    | none => rfl
    | some j => exact absurd (f1 a ha).1 (h1 a (by rw [e]; exact fun z => nomatch z)).1
  refine ⟨E.up, ⟨fun a => if fp a then some i else if ow a = some i then none else ow a, fun a ha => ?_, fun j w' hj => ?_⟩, by simp [E.len]⟩
  · by_cases q : fp a
    · obtain ⟨q1, q2, q3, _⟩ := f1 a q
      exact ⟨q3, Ez.up.h.back q1, q2⟩
    · have ha : (if fp a then some i else if ow a = some i then none else ow a) ≠ none := ha
      rw [if_neg q] at ha
      by_cases q2 : ow a = some i
      · rw [if_pos q2] at ha; exact absurd rfl ha
      · rw [if_neg q2] at ha
        obtain ⟨a1, a2, a3⟩ := h1 a ha
        exact ⟨fun z => a1 (u.h.back z), a2, u.sep a a1 a3⟩
  · by_cases e : i = j
    · subst e
      rw [List.getElem?_set_self hir] at hj
      cases hj
      exact ⟨v, List.getElem?_set_self hi, hf.weak (fun a => Ez.up.h.back) fun a _ _ _ ha => if_pos ha, hb⟩
    · rw [List.getElem?_set_ne e] at hj ⊢
      obtain ⟨v', a, b⟩ := h2 j w' hj
      refine ⟨v', a, RP.weak (RP.up b.1 u) (fun _ z => z) fun x _ _ _ hx => ?_, b.2⟩
      have nf : ¬ fp x := fun z => by have := ne x z; rw [hx] at this; cases this
      show (if fp x then some i else if ow x = some i then none else ow x) = some j
      rw [if_neg nf, if_neg (by rw [hx]; exact fun z => e (Option.some.inj z).symm), hx]
/-- slots forgotten -/
theorem DEnv.forget (E : DEnv K G0 H0 G H σ ρ) {σ' : L2.St} {ρ' : En} (hl : ρ'.length = σ'.length) (h : ∀ (i : Nat) (w : W), ρ'[i]? = some (some w) → ρ[i]? = some (some w) ∧ σ'[i]? = σ[i]?) : DEnv K G0 H0 G H σ' ρ' := by
  obtain ⟨ow, h1, h2⟩ := E.own
  refine ⟨E.up, ⟨ow, h1, fun i w e => ?_⟩, hl⟩
  obtain ⟨a, b⟩ := h i w e
  rw [b]; exact h2 i w a
/-- what is owned stays, and nothing else is asked -/
theorem SP.keepH (h : SP K H0 G H P v w) (keep : ∀ a o, H a = some o → P a → H' a = some o) : SP K H0 G H' P v w := by
  obtain ⟨h, n1, n2, n3⟩ := h
  refine ⟨?_, n1, n2, n3⟩
  cases w with
  | d x => exact h
  | l xs =>
    obtain ⟨p, vs, e, h1, h2, hp, h3, z, h4⟩ := h
    exact ⟨p, vs, e, h1, h2, hp, keep p _ h3 hp, z, h4⟩
  | b xs => exact h
  | r xs => exact absurd rfl (n1 xs)
  | drw => exact h
  | x y =>
    cases y with
    | m kvs =>
      obtain ⟨p, vals, e, h1, h2, hp, h3, h4⟩ := h
      exact ⟨p, vals, e, h1, h2, hp, h3.up (Ex.refl _) fun o z => keep p o z hp, h4⟩
    | ml kvs =>
      obtain ⟨p, ls, e, h1, h2, hp, h3, h4, h5, h6⟩ := h
      exact ⟨p, ls, e, h1, h2, hp, h3.up (Ex.refl _) fun o z => keep p o z hp, h4.up (Ex.refl _) fun a ha o z => keep a o z (h5 a ha).2.2, h5, h6⟩
    | bm kvs => exact h
    | rm kvs => exact absurd rfl (n2 kvs)
    | rml kvs => exact absurd rfl (n3 kvs)
open Classical in
/-- what a slot owns is changed, or made more of -/
theorem DEnv.chg (E : DEnv K G0 H0 G H σ ρ) {i : Nat} {w : W} (hw : ρ[i]? = some (some w)) : ∃ v P, σ[i]? = some (some v) ∧ SP K H0 G H P v w ∧ (∀ a, P a → H a ≠ none ∧ H0 a = none ∧ G a = none) ∧
    ∀ (H' : Hp) (news : List Addr) (w' : W), (∀ a ∈ news, H a = none ∧ H' a ≠ none) → (∀ a o, H a = some o → ¬ P a → H' a = some o) → (∀ a, P a → H' a ≠ none) → SP K H0 G H' (fun a => P a ∨ a ∈ news) v w' → DEnv K G0 H0 G H' σ (ρ.set i (some w')) := by
  obtain ⟨ow, h1, h2⟩ := E.own
  obtain ⟨v, hv, sp⟩ := h2 i w hw
  have hir : i < ρ.length := (List.getElem?_eq_some_iff.mp hw).1
  refine ⟨v, _, hv, sp, fun a ha => h1 a (by rw [ha]; exact fun z => nomatch z), fun H' news w' hn keep hP sp' => ?_⟩
  have non : ∀ a o, H0 a = some o → ow a = none := fun a o ho => by
    cases e : ow a with
    | none => rfl
    | some j => have := (h1 a (by rw [e]; exact fun z => nomatch z)).2.1; rw [ho] at this; cases this
  have nog : ∀ a o, G a = some o → ow a = none := fun a o ho => by
    cases e : ow a with
    | none => rfl
    | some j => have := (h1 a (by rw [e]; exact fun z => nomatch z)).2.2; rw [ho] at this; cases this
  have kp : ∀ a o, H a = some o → ow a ≠ some i → H' a = some o := keep
  refine ⟨⟨E.up.g, fun a o ho => kp a o (E.up.h a o ho) (by rw [non a o ho]; exact fun z => nomatch z), fun a o ho => kp a o (E.up.gh a o ho) (by rw [nog a o ho]; exact fun z => nomatch z), E.up.sep⟩,
    ⟨fun a => if a ∈ news then some i else ow a, fun a ha => ?_, fun j w2 hj => ?_⟩, by simp [E.len]⟩
  · by_cases q : a ∈ news
    · exact ⟨(hn a q).2, E.up.h.back (hn a q).1, E.up.gh.back (hn a q).1⟩
    · have ha : (if a ∈ news then some i else ow a) ≠ none := ha
      rw [if_neg q] at ha
      obtain ⟨a1, a2, a3⟩ := h1 a ha
      refine ⟨?_, a2, a3⟩
      by_cases q2 : ow a = some i
      · exact hP a q2
      · cases e : H a with
        | none => exact absurd e a1
        | some o => rw [kp a o e q2]; exact fun z => nomatch z
  · by_cases e : i = j
    · subst e
      rw [List.getElem?_set_self hir] at hj
      cases hj
      refine ⟨v, hv, RP.weak sp'.1 (fun _ z => z) fun a _ _ _ ha => ?_, sp'.2⟩
      show (if a ∈ news then some i else ow a) = some i
      by_cases q : a ∈ news
      · rw [if_pos q]
      · rw [if_neg q]; exact ha.resolve_right q
    · rw [List.getElem?_set_ne e] at hj
      obtain ⟨v', a, b⟩ := h2 j w2 hj
      have nn : ∀ x, ow x = some j → x ∉ news := fun x hx q => (h1 x (by rw [hx]; exact fun z => nomatch z)).1 (hn x q).1
      have b' : SP K H0 G H' (fun a => ow a = some j) v' w2 := b.keepH fun x o ho hx => kp x o ho (by rw [show ow x = some j from hx]; exact fun z => e (Option.some.inj z).symm)
      refine ⟨v', a, RP.weak b'.1 (fun _ z => z) fun x _ _ _ hx => ?_, b.2⟩
      show (if x ∈ news then some i else ow x) = some j
      rw [if_neg (nn x hx)]; exact hx
/-- more is stable, but not what is owned -/
theorem RP.upG (h : RP K H0 Hs G H P v w) (g : Ex G G') (sep : ∀ a, P a → G a = none → G' a = none) : RP K H0 Hs G' H P v w := by
  cases w with
  | d x => exact Is.up g h
  | l xs =>
    obtain ⟨p, vs, e, h1, h2, hp, h3, z, h4⟩ := h
    exact ⟨p, vs, e, h1, sep p hp h2, hp, h3, z, h4.up g⟩
  | b xs =>
    obtain ⟨p, vs, e, h1, z, h4⟩ := h
    exact ⟨p, vs, e, h1, z, h4.up g⟩
  | r xs =>
    obtain ⟨p, vs, e, h1, z, h4⟩ := h
    exact ⟨p, vs, e, h1, z, h4.up g⟩
  | drw => obtain ⟨p, e, h1⟩ := h; exact ⟨p, e, g p _ h1⟩
  | x y =>
    cases y with
    | m kvs =>
      obtain ⟨p, vals, e, h1, h2, hp, h3, h4⟩ := h
      exact ⟨p, vals, e, h1, sep p hp h2, hp, h3.up g fun _ z => z, h4.up g⟩
    | ml kvs =>
      obtain ⟨p, ls, e, h1, h2, hp, h3, h4, h5, h6⟩ := h
      exact ⟨p, ls, e, h1, sep p hp h2, hp, h3.up g fun _ z => z, h4.up g fun _ _ _ z => z, fun l hl => ⟨(h5 l hl).1, sep l (h5 l hl).2.2 (h5 l hl).2.1, (h5 l hl).2.2⟩, h6⟩
    | bm kvs =>
      obtain ⟨p, vals, e, h3, h4⟩ := h
      exact ⟨p, vals, e, h3.up g fun _ z => z, h4.up g⟩
    | rm kvs =>
      obtain ⟨p, vals, e, h3, h4⟩ := h
      exact ⟨p, vals, e, h3.up g fun _ z => z, h4.up g⟩
    | rml kvs =>
      obtain ⟨p, ls, e, h3, h4⟩ := h
      exact ⟨p, ls, e, h3.up g fun _ z => z, h4.up g fun _ _ _ z => z⟩
/-- an own list is changed: its address p -/
theorem DEnv.mut (E : DEnv K G0 H0 G H σ ρ) {i : Nat} {xs ys : List PyData} {p : Addr} {vs : List V} (hi : ρ[i]? = some (some (.l xs))) (hp : σ[i]? = some (some (.ref p))) (hz : ys.length ≤ sizeLine) (hv : IsAll K G vs ys) :
    DEnv K G0 H0 G (upd H p (.lst vs)) σ (ρ.set i (some (.l ys))) := by
  obtain ⟨v, P, a, b, hP, k⟩ := E.chg hi
  rw [hp] at a; cases a
  obtain ⟨⟨p', vs', e, h1, h2, hp', h3, _⟩, _⟩ := b
  cases e
  refine k _ [] (.l ys) (fun a ha => by cases ha) (fun a o ho hn => ?_) (fun a ha => ?_) ⟨⟨p, vs, rfl, h1, h2, .inl hp', upd_same, hz, hv⟩, (fun xs z => nomatch z), (fun xs z => nomatch z), fun xs z => nomatch z⟩
  · rw [upd_ne (fun z : a = p => hn (by rw [z]; exact hp'))]; exact ho
  · by_cases z : a = p
    · subst z; rw [upd_same]; exact fun z => nomatch z
    · rw [upd_ne z]; exact (hP a ha).1
open Classical in
/-- what is one's own is data from now on -/
theorem DEnv.frzX (E : DEnv K G0 H0 G H σ ρ) {i : Nat} {w : W} {x : PyData} (hw : ρ[i]? = some (some w)) (hx : frzW w = some x) : ∃ G', DEnv K G0 H0 G' H σ (ρ.set i (some (.d x))) := by
  obtain ⟨ow, h1, h2⟩ := E.own
  obtain ⟨v, hv, sp⟩ := h2 i w hw
  have hir : i < ρ.length := (List.getElem?_eq_some_iff.mp hw).1
  have eg : Ex G (fun a => if ow a = some i then H a else G a) := fun a o ho => by
    show (if ow a = some i then H a else G a) = some o
    by_cases q : ow a = some i
    · rw [if_pos q]; exact E.gh a o ho
    · rw [if_neg q]; exact ho
  refine ⟨fun a => if ow a = some i then H a else G a, ⟨E.up.g.trans eg, E.up.h, fun a o ho => ?_, fun a ha hg => ?_⟩, ⟨fun a => if ow a = some i then none else ow a, fun a ha => ?_, fun j w2 hj => ?_⟩, by simp [E.len]⟩
  · have ho : (if ow a = some i then H a else G a) = some o := ho
    by_cases q : ow a = some i
    · rw [if_pos q] at ho; exact ho
    · rw [if_neg q] at ho; exact E.gh a o ho
  · show (if ow a = some i then H a else G a) = none
    rw [if_neg (fun q => ha (h1 a (by rw [q]; exact fun z => nomatch z)).2.1)]
    exact E.up.sep a ha hg
  · have ha : (if ow a = some i then none else ow a) ≠ none := ha
    by_cases q : ow a = some i
    · rw [if_pos q] at ha; exact absurd rfl ha
    · rw [if_neg q] at ha
      obtain ⟨a1, a2, a3⟩ := h1 a ha
      exact ⟨a1, a2, by show (if ow a = some i then H a else G a) = none; rw [if_neg q]; exact a3⟩
  · by_cases e : i = j
    · subst e
      rw [List.getElem?_set_self hir] at hj
      cases hj
      exact ⟨v, hv, RP.frz' sp.1 eg hx fun a _ ha => if_pos ha, (fun xs z => nomatch z), (fun xs z => nomatch z), fun xs z => nomatch z⟩
    · rw [List.getElem?_set_ne e] at hj
      obtain ⟨v', a, b⟩ := h2 j w2 hj
      refine ⟨v', a, ?_, b.2⟩
      have b' : RP K H0 H0 G H (fun a => ow a = some j ∧ ow a ≠ some i) v' w2 := RP.weak b.1 (fun _ z => z) fun x _ _ _ hx => ⟨hx, by rw [show ow x = some j from hx]; exact fun z => e (Option.some.inj z).symm⟩
      exact RP.weak (RP.upG b' eg fun a ha hg => if_neg ha.2 ▸ hg) (fun _ z => z) fun x _ _ _ hx => (if_neg hx.2).trans hx.1
theorem DEnv.freeze (E : DEnv K G0 H0 G H σ ρ) {i : Nat} {xs : List PyData} (hi : ρ[i]? = some (some (.l xs))) : ∃ G', DEnv K G0 H0 G' H σ (ρ.set i (some (.d (.list xs)))) := E.frzX hi rfl
end
end DL

/-! DL2: judgements of the data layer, expressions. -/
namespace DL
open PySem PySem.Spec PyProof.Rows L2

abbrev TEd := En → (W → Prop) → Prop
abbrev TTd := En → (Bool → Prop) → Prop
abbrev TAd := En → (List W → Prop) → Prop
/-- an exception told by data: its class, its attributes -/
abbrev XEd := Value → List (Str × PyData) → Prop
/-- what is wished of an exception: over the heap, and by data -/
structure Wish where
  E : XK
  D : XEd
inductive FldR (K : KW) (G : Hp) : List (Str × V) → List (Str × PyData) → Prop
  | nil : FldR K G [] []
  | cons {n : Str} {v : V} {d : PyData} {xs : List (Str × V)} {ys : List (Str × PyData)} : Is K G v d → FldR K G xs ys → FldR K G ((n, v) :: xs) ((n, d) :: ys)
def XR (K : KW) (G H : Hp) (d : Option Addr) (fs : List (Str × PyData)) : Prop :=
  match d with
  | none => fs = []
  | some a => ∃ xs, H a = some (.xd xs) ∧ FldR K G xs fs
def Good (K : KW) (Z : Wish) (G0 H0 : Hp) : Prop := ∀ cls d G' H' fs, Up G0 H0 G' H' → XR K G' H' d fs → Z.D cls fs → Z.E cls d H'

def Snd (K : KW) (Z : Wish) (te : TE) (t : TEd) : Prop := ∀ (G0 H0 G H : Hp) (σ : L2.St) (ρ : En) (Q' : W → Prop) (Q : VK), DEnv K G0 H0 G H σ ρ → Good K Z G0 H0 → t ρ Q' →
  (∀ v w G' H', Up G H G' H' → RR K H0 H G' H' v w → Q' w → Q v H') → te σ H Q
def SndT (K : KW) (Z : Wish) (te : TT) (t : TTd) : Prop := ∀ (G0 H0 G H : Hp) (σ : L2.St) (ρ : En) (Q' : Bool → Prop) (Q : Bool → Hp → Prop), DEnv K G0 H0 G H σ ρ → Good K Z G0 H0 → t ρ Q' →
  (∀ b G' H', Up G H G' H' → Q' b → Q b H') → te σ H Q
inductive RRs (K : KW) (H0 Hs G H : Hp) : List V → List W → Prop
  | nil : RRs K H0 Hs G H [] []
  | cons {v : V} {w : W} {vs : List V} {ws : List W} : RR K H0 Hs G H v w → RRs K H0 Hs G H vs ws → RRs K H0 Hs G H (v :: vs) (w :: ws)
def SndA (K : KW) (Z : Wish) (te : TA) (t : TAd) : Prop := ∀ (G0 H0 G H : Hp) (σ : L2.St) (ρ : En) (Q' : List W → Prop) (Q : List V → Hp → Prop), DEnv K G0 H0 G H σ ρ → Good K Z G0 H0 → t ρ Q' →
  (∀ vs ws G' H', Up G H G' H' → RRs K H0 H G' H' vs ws → Q' ws → Q vs H') → te σ H Q
def PD (X : Cx) (Z : Wish) (e : Expr) (t : TEd) : Prop := ∃ te, PE X e te ∧ Snd (kw X) Z te t
def PDT (X : Cx) (Z : Wish) (e : Expr) (t : TTd) : Prop := ∃ te, PT X e te ∧ SndT (kw X) Z te t
def PDW (X : Cx) (Z : Wish) (e : Expr) (t : TTd) : Prop := ∃ te, PW X e te ∧ SndT (kw X) Z te t
def PDA (X : Cx) (Z : Wish) (es : List Expr) (t : TAd) : Prop := ∃ te, PA X es te ∧ SndA (kw X) Z te t

theorem RRs.up {K : KW} {H0 Hs G H G' H' : Hp} (u : Up G H G' H') : ∀ {vs : List V} {ws : List W}, RRs K H0 Hs G H vs ws → RRs K H0 Hs G' H' vs ws
  | _, _, .nil => .nil
  | _, _, .cons a b => .cons (a.up u) (RRs.up u b)
theorem RRs.at {K : KW} {H0 Hs Hz G H : Hp} (e : Ex Hz Hs) : ∀ {vs : List V} {ws : List W}, RRs K H0 Hs G H vs ws → RRs K H0 Hz G H vs ws
  | _, _, .nil => .nil
  | _, _, .cons a b => .cons (a.at e) (RRs.at e b)
/-- laid as data, all of them -/
def frzs : List W → Option (List PyData)
  | [] => some []
  | w :: ws => match frzW w, frzs ws with
    | some x, some xs => some (x :: xs)
    | _, _ => none
theorem RRs.frz {K : KW} {H0 Hs G H : Hp} (gh : Ex G H) : ∀ {vs : List V} {ws : List W} {xs : List PyData}, RRs K H0 Hs G H vs ws → frzs ws = some xs → IsAll K (frzAll Hs G H) vs xs
  | _, _, _, .nil, e => by cases e; exact .nil
  | _, _, xs, .cons (w := w) (ws := ws) a b, e => by
    unfold frzs at e
    cases e1 : frzW w with
    | none => rw [e1] at e; cases e
    | some x =>
      cases e2 : frzs ws with
      | none => rw [e1, e2] at e; cases e
      | some ys =>
        rw [e1, e2] at e; cases e
        exact .cons (a.frz gh e1) (RRs.frz gh b e2)

def onFw (w : W) (k : PyData → Prop) : Prop := match frzW w with
  | some y => k y
  | none => False
theorem onFw_of {w : W} {k : PyData → Prop} (h : onFw w k) : ∃ y, frzW w = some y ∧ k y := by
  unfold onFw at h
  split at h
  · exact ⟨_, by assumption, h⟩
  · exact h.elim
/-! ### names, constants -/
def gx : En → Nat → Option W
  | [], _ => none
  | w :: _, 0 => w
  | _ :: r, n + 1 => gx r n
theorem gx_some : ∀ {ρ : En} {i : Nat} {w : W}, gx ρ i = some w → ρ[i]? = some (some w)
  | _ :: _, 0, _, h => by simp [gx] at h; simp [h]
  | _ :: r, n + 1, _, h => by simpa using gx_some (ρ := r) (i := n) h
def rd : W → W
  | .l xs => .r xs
  | .x (.m kvs) => .x (.rm kvs)
  | .x (.ml kvs) => .x (.rml kvs)
  | w => w
theorem SR.rd {K : KW} {H0 Hz G H : Hp} {v : V} {w : W} (r : SR K H0 G H v w) : RR K H0 Hz G H v (DL.rd w) := by
  obtain ⟨r, n1, n2, n3⟩ := r
  cases w with
  | l xs =>
    obtain ⟨p, vs, e1, h1, h2, _, h3, z, h4⟩ := r
    exact ⟨p, vs, e1, h3, z, h4⟩
  | r xs => exact absurd rfl (n1 xs)
  | x y =>
    cases y with
    | m kvs => obtain ⟨p, vals, e, _, _, _, h3, h4⟩ := r; exact ⟨p, vals, e, h3, h4⟩
    | ml kvs => obtain ⟨p, ls, e, _, _, _, h3, h4, _⟩ := r; exact ⟨p, ls, e, h3, h4⟩
    | bm kvs => exact r
    | rm kvs => exact absurd rfl (n2 kvs)
    | rml kvs => exact absurd rfl (n3 kvs)
  | _ => exact r
def dVar (i : Nat) : TEd := fun ρ Q => match gx ρ i with
  | some w => Q (rd w)
  | none => False
def dC (x : PyData) : TEd := fun _ Q => Q (.d x)
section
variable {X : Cx} {Z : Wish} {pos : Pos}
theorem snd_var {K : KW} {i : Nat} : Snd K Z (tVar i) (dVar i) := by
  intro G0 H0 G H σ ρ Q' Q E g h k
  unfold dVar at h
  cases e : gx ρ i with
  | none => rw [e] at h; exact h.elim
  | some w =>
    rw [e] at h
    obtain ⟨v, a, r⟩ := E.slot i w (gx_some e)
    exact ⟨v, a, k v (rd w) G H (Up.refl E.gh) r.rd h⟩
theorem dv (i : Nat) {x : Str} (hN : X.N[i]? = some x := by rfl) (hv : Vis X.env.scope x := by first | exact Or.inl rfl | exact Or.inr (Or.inl rfl) | exact Or.inr (Or.inr rfl)) (hd : (x == ("__debug__" : Str)) = false := by decide)
    (hcd : (x == ("__classdict__" : Str)) = false := by decide) : PD X Z (.Name x pos) (dVar i) := ⟨_, pe_var hN hv hd hcd, snd_var⟩
theorem snd_c {K : KW} {v : V} {x : PyData} (h : ∀ G, Is K G v x) : Snd K Z (tC v) (dC x) := fun G0 H0 G H σ ρ Q' Q E g q k => k v (.d x) G H (Up.refl E.gh) (h G) q
theorem d_int {i : Int} {j} : PD X Z (.Constant (.int i) j pos) (dC (.int i)) := ⟨_, pe_int, snd_c fun _ => .int i⟩
theorem d_bl {b : Bool} {j} : PD X Z (.Constant (.bool b) j pos) (dC (.bool b)) := ⟨_, pe_bl, snd_c fun _ => .bl b⟩
theorem d_non {j} : PD X Z (.Constant .none j pos) (dC .none) := ⟨_, pe_non, snd_c fun _ => .non⟩
theorem d_str {x : Str} {j} (hz : okS x := by exact ⟨by decide +kernel, by decide +kernel⟩) : PD X Z (.Constant (.str x) j pos) (dC (.str x)) := ⟨_, pe_str, snd_c fun _ => .str x hz⟩
/-- a module's constant -/
theorem d_globI {x : Str} {i : Int} {t : Tok} (hm : X.mg x = some (.int i t)) (hg : Gl X x := by rfl) (hd : (x == ("__debug__" : Str)) = false := by decide) : PD X Z (.Name x pos) (dC (.int i)) :=
  ⟨_, pe_glob (v := .int i) hg hm ⟨_, rfl⟩ hd, snd_c fun _ => .int i⟩
theorem d_globS {x y : Str} {t : Tok} (hm : X.mg x = some (.str y t)) (hz : okS y := by exact ⟨by decide +kernel, by decide +kernel⟩) (hg : Gl X x := by rfl) (hd : (x == ("__debug__" : Str)) = false := by decide) : PD X Z (.Name x pos) (dC (.str y)) :=
  ⟨_, pe_glob (v := .str y) hg hm ⟨_, rfl⟩ hd, snd_c fun _ => .str y hz⟩
end

/-! ### operators -/
/-- an operation on values, by data -/
def OpD (K : KW) (r : R2) (g : W → W → (W → Prop) → Prop) : Prop := ∀ (G0 H0 Hx Hy G H : Hp) (σ : L2.St) (ρ : En) (x y : V) (wx wy : W) (Q' : W → Prop) (Q : VK), DEnv K G0 H0 G H σ ρ →
  RR K H0 Hx G H x wx → RR K H0 Hy G H y wy → g wx wy Q' → (∀ v w G' H', Up G H G' H' → RR K H0 H G' H' v w → Q' w → Q v H') → r x y H Q
def dOp (g : W → W → (W → Prop) → Prop) (ta tb : TEd) : TEd := fun ρ Q => ta ρ fun x => tb ρ fun y => g x y Q
section
variable {X : Cx} {Z : Wish} {pos : Pos} {a b : Expr} {ta tb : TEd} {K : KW} {r : R2} {g : W → W → (W → Prop) → Prop}
theorem snd_op {ua ub : TE} (hg : OpD K r g) (ha : Snd K Z ua ta) (hb : Snd K Z ub tb) : Snd K Z (tOp r ua ub) (dOp g ta tb) := by
  intro G0 H0 G H σ ρ Q' Q E gd h k
  refine ha G0 H0 G H σ ρ _ _ E gd h fun x wx G1 H1 u1 r1 q1 => ?_
  have E1 := E.to u1
  refine hb G0 H0 G1 H1 σ ρ _ _ E1 gd q1 fun y wy G2 H2 u2 r2 q2 => ?_
  have E2 := E1.to u2
  exact hg G0 H0 H H1 G2 H2 σ ρ x y wx wy Q' Q E2 (r1.up u2) r2 q2 fun v w G3 H3 u3 r3 q3 => k v w G3 H3 ((u1.trans u2).trans u3) (r3.at (u1.trans u2).h) q3
theorem d_op {op : Operator} (ho : OpR X (binaryOp op) r) (hg : OpD (kw X) r g) (ha : PD X Z a ta) (hb : PD X Z b tb) : PD X Z (.BinOp a op b pos) (dOp g ta tb) := by
  obtain ⟨ua, pa, sa⟩ := ha
  obtain ⟨ub, pb, sb⟩ := hb
  exact ⟨_, pe_op ho pa pb, snd_op hg sa sb⟩
theorem d_cmp {op : CmpOp} (ho : OpR X (compareOp op) r) (hg : OpD (kw X) r g) (ha : PD X Z a ta) (hb : PD X Z b tb) (hm : behindInMarks op b = false := by first | exact nomark _ | rfl) : PD X Z (.Compare a [op] [b] pos) (dOp g ta tb) := by
  obtain ⟨ua, pa, sa⟩ := ha
  obtain ⟨ub, pb, sb⟩ := hb
  exact ⟨_, pe_cmpR ho pa pb hm, snd_op hg sa sb⟩
/-- a value that is a bool, as a test -/
def bTest (t : TEd) : TTd := fun ρ Q => t ρ fun w => match w with
  | .d (.bool b) => Q b
  | _ => False
theorem snd_test {u : TE} {t : TEd} (h : Snd K Z u t) : SndT K Z (tTest u) (bTest t) := by
  intro G0 H0 G H σ ρ Q' Q E gd hh k
  refine h G0 H0 G H σ ρ _ _ E gd hh fun x wx G1 H1 u1 r1 q1 => ?_
  cases wx with
  | d y =>
    cases y with
    | bool c =>
      cases r1
      exact ⟨c, rfl, k c G1 H1 u1 q1⟩
    | _ => exact q1.elim
  | _ => exact q1.elim
theorem snd_testB {u : TE} {t : TEd} (h : Snd K Z u t) : SndT K Z (tB u) (bTest t) := snd_test h
theorem dt_cmp {op : CmpOp} (ho : OpR X (compareOp op) r) (hg : OpD (kw X) r g) (ha : PD X Z a ta) (hb : PD X Z b tb) (hm : behindInMarks op b = false := by first | exact nomark _ | rfl) : PDT X Z (.Compare a [op] [b] pos) (bTest (dOp g ta tb)) := by
  obtain ⟨ua, pa, sa⟩ := ha
  obtain ⟨ub, pb, sb⟩ := hb
  exact ⟨_, pt_cmpR ho pa pb hm, snd_test (snd_op hg sa sb)⟩
/-- an expression (a name, a call, a constant) as a test -/
theorem dt_val {e : Expr} {t : TEd} (h : PD X Z e t) (he : ∀ whole, isTrue e X.env whole = (do let v ← whole; standAt e.pos; holding [v] (truthy v)) := by intro _; rfl) : PDT X Z e (bTest t) := by
  obtain ⟨u, p, s⟩ := h
  exact ⟨_, pt_val p he, snd_testB s⟩
def bAnd (t u : TTd) : TTd := fun ρ Q => t ρ fun c => if c = true then u ρ Q else Q false
def bOr (t u : TTd) : TTd := fun ρ Q => t ρ fun c => if c = true then Q true else u ρ Q
def bNot (t : TTd) : TTd := fun ρ Q => t ρ fun c => Q (!c)
variable {t u : TTd} {rest : List Expr}
theorem dt_not (h : PDT X Z a t) : PDT X Z (.UnaryOp .Not a pos) (bNot t) := by
  obtain ⟨ua, pa, sa⟩ := h
  refine ⟨_, pt_not pa, fun G0 H0 G H σ ρ Q' Q E gd hh k => ?_⟩
  exact sa G0 H0 G H σ ρ _ _ E gd hh fun c G1 H1 u1 q1 => k (!c) G1 H1 u1 q1
theorem dw_and1 (h : PDT X Z a t) : PDW X Z (.BoolOp .And [a] pos) t := by
  obtain ⟨ua, pa, sa⟩ := h
  exact ⟨_, pw_and1 pa, sa⟩
theorem dw_or1 (h : PDT X Z a t) : PDW X Z (.BoolOp .Or [a] pos) t := by
  obtain ⟨ua, pa, sa⟩ := h
  exact ⟨_, pw_or1 pa, sa⟩
theorem snd_and {ua ub : TT} (sa : SndT K Z ua t) (sb : SndT K Z ub u) : SndT K Z (tAnd ua ub) (bAnd t u) := by
  intro G0 H0 G H σ ρ Q' Q E gd hh k
  refine sa G0 H0 G H σ ρ _ _ E gd hh fun c G1 H1 u1 q1 => ?_
  cases c with
  | true => exact sb G0 H0 G1 H1 σ ρ _ _ (E.to u1) gd q1 fun d G2 H2 u2 q2 => k d G2 H2 (u1.trans u2) q2
  | false => exact k false G1 H1 u1 q1
theorem snd_or {ua ub : TT} (sa : SndT K Z ua t) (sb : SndT K Z ub u) : SndT K Z (tOr ua ub) (bOr t u) := by
  intro G0 H0 G H σ ρ Q' Q E gd hh k
  refine sa G0 H0 G H σ ρ _ _ E gd hh fun c G1 H1 u1 q1 => ?_
  cases c with
  | false => exact sb G0 H0 G1 H1 σ ρ _ _ (E.to u1) gd q1 fun d G2 H2 u2 q2 => k d G2 H2 (u1.trans u2) q2
  | true => exact k true G1 H1 u1 q1
theorem dw_and (ha : PDT X Z a t) (hb : PDW X Z (.BoolOp .And (b :: rest) pos) u) : PDW X Z (.BoolOp .And (a :: b :: rest) pos) (bAnd t u) := by
  obtain ⟨ua, pa, sa⟩ := ha
  obtain ⟨ub, pb, sb⟩ := hb
  exact ⟨_, pw_and pa pb, snd_and sa sb⟩
theorem dw_or (ha : PDT X Z a t) (hb : PDW X Z (.BoolOp .Or (b :: rest) pos) u) : PDW X Z (.BoolOp .Or (a :: b :: rest) pos) (bOr t u) := by
  obtain ⟨ua, pa, sa⟩ := ha
  obtain ⟨ub, pb, sb⟩ := hb
  exact ⟨_, pw_or pa pb, snd_or sa sb⟩
theorem dt_w {e : Expr} (h : PDW X Z e t) : PDT X Z e t := by
  obtain ⟨ua, pa, sa⟩ := h
  exact ⟨_, pa.pt, sa⟩
/-! .. as values -/
def onB (w : W) (k : Bool → Prop) : Prop := match w with
  | .d (.bool b) => k b
  | _ => False
def dAnd (ta tb : TEd) : TEd := fun ρ Q => ta ρ fun w => onB w fun c => if c = true then tb ρ Q else Q (.d (.bool false))
def dOr (ta tb : TEd) : TEd := fun ρ Q => ta ρ fun w => onB w fun c => if c = true then Q (.d (.bool true)) else tb ρ Q
def dNot (ta : TEd) : TEd := fun ρ Q => ta ρ fun w => onB w fun c => Q (.d (.bool (!c)))
theorem onB_of {H0 Hs G H : Hp} {v : V} {w : W} {k : Bool → Prop} (r : RR K H0 Hs G H v w) (h : onB w k) : ∃ c, v = .bl c ∧ k c := by
  cases w with
  | d y =>
    cases y with
    | bool c => cases r; exact ⟨c, rfl, h⟩
    | _ => exact h.elim
  | _ => exact h.elim
theorem d_one {op : BoolOp} {ta : TEd} (h : PD X Z a ta) : PD X Z (.BoolOp op [a] pos) ta := by
  obtain ⟨ua, pa, sa⟩ := h
  exact ⟨_, pe_one pa, sa⟩
theorem d_and (ha : PD X Z a ta) (hb : PD X Z (.BoolOp .And (b :: rest) pos) tb) : PD X Z (.BoolOp .And (a :: b :: rest) pos) (dAnd ta tb) := by
  obtain ⟨ua, pa, sa⟩ := ha
  obtain ⟨ub, pb, sb⟩ := hb
  refine ⟨_, pe_and pa pb, fun G0 H0 G H σ ρ Q' Q E gd hh k => ?_⟩
  refine sa G0 H0 G H σ ρ _ _ E gd hh fun v w G1 H1 u1 r1 q1 => ?_
  obtain ⟨c, rfl, q⟩ := onB_of r1 q1
  refine ⟨c, rfl, ?_⟩
  cases c with
  | true => exact sb G0 H0 G1 H1 σ ρ _ _ (E.to u1) gd q fun v w G2 H2 u2 r2 q2 => k v w G2 H2 (u1.trans u2) (r2.at u1.h) q2
  | false => exact k (.bl false) (.d (.bool false)) G1 H1 u1 (.bl false) q
theorem d_or (ha : PD X Z a ta) (hb : PD X Z (.BoolOp .Or (b :: rest) pos) tb) : PD X Z (.BoolOp .Or (a :: b :: rest) pos) (dOr ta tb) := by
  obtain ⟨ua, pa, sa⟩ := ha
  obtain ⟨ub, pb, sb⟩ := hb
  refine ⟨_, pe_or pa pb, fun G0 H0 G H σ ρ Q' Q E gd hh k => ?_⟩
  refine sa G0 H0 G H σ ρ _ _ E gd hh fun v w G1 H1 u1 r1 q1 => ?_
  obtain ⟨c, rfl, q⟩ := onB_of r1 q1
  refine ⟨c, rfl, ?_⟩
  cases c with
  | false => exact sb G0 H0 G1 H1 σ ρ _ _ (E.to u1) gd q fun v w G2 H2 u2 r2 q2 => k v w G2 H2 (u1.trans u2) (r2.at u1.h) q2
  | true => exact k (.bl true) (.d (.bool true)) G1 H1 u1 (.bl true) q
theorem d_not (ha : PD X Z a ta) : PD X Z (.UnaryOp .Not a pos) (dNot ta) := by
  obtain ⟨ua, pa, sa⟩ := ha
  refine ⟨_, pe_not pa, fun G0 H0 G H σ ρ Q' Q E gd hh k => ?_⟩
  refine sa G0 H0 G H σ ρ _ _ E gd hh fun v w G1 H1 u1 r1 q1 => ?_
  obtain ⟨c, rfl, q⟩ := onB_of r1 q1
  exact ⟨c, rfl, k (.bl (!c)) (.d (.bool (!c))) G1 H1 u1 (.bl _) q⟩
def dIf (t : TTd) (ta tb : TEd) : TEd := fun ρ Q => t ρ fun c => if c = true then ta ρ Q else tb ρ Q
theorem d_ifExp {c : Expr} (hc : PDT X Z c t) (ha : PD X Z a ta) (hb : PD X Z b tb) : PD X Z (.IfExp c a b pos) (dIf t ta tb) := by
  obtain ⟨uc, pc, sc⟩ := hc
  obtain ⟨ua, pa, sa⟩ := ha
  obtain ⟨ub, pb, sb⟩ := hb
  refine ⟨_, pe_ifExp pc pa pb, fun G0 H0 G H σ ρ Q' Q E gd hh k => ?_⟩
  refine sc G0 H0 G H σ ρ _ _ E gd hh fun c G1 H1 u1 q1 => ?_
  cases c with
  | true => exact sa G0 H0 G1 H1 σ ρ _ _ (E.to u1) gd q1 fun v w G2 H2 u2 r2 q2 => k v w G2 H2 (u1.trans u2) (r2.at u1.h) q2
  | false => exact sb G0 H0 G1 H1 σ ρ _ _ (E.to u1) gd q1 fun v w G2 H2 u2 r2 q2 => k v w G2 H2 (u1.trans u2) (r2.at u1.h) q2
end

/-! ### what the operators do to data -/
section
variable {X : Cx} {K : KW}
theorem OpD.or {r r' : R2} {g g' : W → W → (W → Prop) → Prop} (h : OpD K r g) (h' : OpD K r' g') : OpD K (fun x y H Q => r x y H Q ∨ r' x y H Q) (fun x y Q => g x y Q ∨ g' x y Q) :=
  fun G0 H0 Hx Hy G H σ ρ x y wx wy Q' Q E rx ry q k => q.elim (fun q => .inl (h G0 H0 Hx Hy G H σ ρ x y wx wy Q' Q E rx ry q k)) fun q => .inr (h' G0 H0 Hx Hy G H σ ρ x y wx wy Q' Q E rx ry q k)
theorem OpD.weak {r : R2} {g g' : W → W → (W → Prop) → Prop} (h : OpD K r g) (f : ∀ x y Q, g' x y Q → g x y Q) : OpD K r g' :=
  fun G0 H0 Hx Hy G H σ ρ x y wx wy Q' Q E rx ry q k => h G0 H0 Hx Hy G H σ ρ x y wx wy Q' Q E rx ry (f _ _ _ q) k
def onI2 (x y : W) (k : Int → Int → Prop) : Prop := match x, y with
  | .d (.int i), .d (.int j) => k i j
  | _, _ => False
def onS2 (x y : W) (k : Str → Str → Prop) : Prop := match x, y with
  | .d (.str i), .d (.str j) => k i j
  | _, _ => False
def onT2 (x y : W) (k : List PyData → List PyData → Prop) : Prop := match x, y with
  | .d (.tuple i), .d (.tuple j) => k i j
  | _, _ => False
def onM2 (x y : W) (k : List PyData → List PyData → Prop) : Prop := match asM x, asM y with
  | some i, some j => k i j
  | _, _ => False
theorem onI2_of {H0 Hx Hy G H : Hp} {x y : V} {wx wy : W} {k : Int → Int → Prop} (rx : RR K H0 Hx G H x wx) (ry : RR K H0 Hy G H y wy) (h : onI2 wx wy k) : ∃ i j, x = .int i ∧ y = .int j ∧ k i j := by
  unfold onI2 at h
  split at h
  · cases rx; cases ry; exact ⟨_, _, rfl, rfl, h⟩
  · exact h.elim
theorem onS2_of {H0 Hx Hy G H : Hp} {x y : V} {wx wy : W} {k : Str → Str → Prop} (rx : RR K H0 Hx G H x wx) (ry : RR K H0 Hy G H y wy) (h : onS2 wx wy k) : ∃ i j, x = .str i ∧ y = .str j ∧ okS i ∧ okS j ∧ k i j := by
  unfold onS2 at h
  split at h
  · cases rx with | str _ z1 =>
    cases ry with | str _ z2 => exact ⟨_, _, rfl, rfl, z1, z2, h⟩
  · exact h.elim
theorem onT2_of {H0 Hx Hy G H : Hp} {x y : V} {wx wy : W} {k : List PyData → List PyData → Prop} (rx : RR K H0 Hx G H x wx) (ry : RR K H0 Hy G H y wy) (h : onT2 wx wy k) :
    ∃ p q xs ys us vs, x = .ref p ∧ y = .ref q ∧ SqT K G p us ∧ IsAll K G us xs ∧ SqT K G q vs ∧ IsAll K G vs ys ∧ xs.length ≤ sizeLine ∧ ys.length ≤ sizeLine ∧ k xs ys := by
  unfold onT2 at h
  split at h
  · cases rx with | tup h1 _ z1 a1 =>
    cases ry with | tup h2 _ z2 a2 => exact ⟨_, _, _, _, _, _, rfl, rfl, h1, a1, h2, a2, z1, z2, h⟩
  · exact h.elim
/-- ints by a rule without a premise -/
theorem opD_int {f : Int → Int → Int} : OpD K (rI0 fun i j => .int (f i j)) (fun x y Q => onI2 x y fun i j => Q (.d (.int (f i j)))) := by
  intro G0 H0 Hx Hy G H σ ρ x y wx wy Q' Q E rx ry q k
  obtain ⟨i, j, rfl, rfl, q⟩ := onI2_of rx ry q
  exact ⟨i, j, rfl, rfl, k _ (.d (.int (f i j))) G H (Up.refl E.gh) (.int _) q⟩
theorem opD_intC {C : Int → Int → Prop} {f : Int → Int → Int} : OpD K (rI C fun i j => .int (f i j)) (fun x y Q => onI2 x y fun i j => C i j ∧ Q (.d (.int (f i j)))) := by
  intro G0 H0 Hx Hy G H σ ρ x y wx wy Q' Q E rx ry q k
  obtain ⟨i, j, rfl, rfl, c, q⟩ := onI2_of rx ry q
  exact ⟨i, j, rfl, rfl, c, k _ (.d (.int (f i j))) G H (Up.refl E.gh) (.int _) q⟩
theorem opD_bool {f : Int → Int → Bool} : OpD K (rI0 fun i j => .bl (f i j)) (fun x y Q => onI2 x y fun i j => Q (.d (.bool (f i j)))) := by
  intro G0 H0 Hx Hy G H σ ρ x y wx wy Q' Q E rx ry q k
  obtain ⟨i, j, rfl, rfl, q⟩ := onI2_of rx ry q
  exact ⟨i, j, rfl, rfl, k _ (.d (.bool (f i j))) G H (Up.refl E.gh) (.bl _) q⟩
def gSub : W → W → (W → Prop) → Prop := fun x y Q => onI2 x y fun i j => Q (.d (.int (i - j)))
def gMod : W → W → (W → Prop) → Prop := fun x y Q => onI2 x y fun i j => 0 < j ∧ Q (.d (.int (i % j)))
def gFdiv : W → W → (W → Prop) → Prop := fun x y Q => onI2 x y fun i j => CDiv i j ∧ Q (.d (.int (i / j)))
def gMulI : W → W → (W → Prop) → Prop := fun x y Q => onI2 x y fun i j => CMul i j ∧ Q (.d (.int (i * j)))
def gPow : W → W → (W → Prop) → Prop := fun x y Q => onI2 x y fun i j => CPow i j ∧ Q (.d (.int (i ^ j.toNat)))
theorem od_sub : OpD K (rI0 fun i j => .int (i - j)) gSub := opD_int
theorem od_mod : OpD K (rI (fun _ j => 0 < j) fun i j => .int (i % j)) gMod := opD_intC
theorem od_fdiv : OpD K (rI CDiv fun i j => .int (i / j)) gFdiv := opD_intC
theorem od_mul : OpD K (rI CMul fun i j => .int (i * j)) gMulI := opD_intC
theorem od_pow : OpD K (rI CPow fun i j => .int (i ^ j.toNat)) gPow := opD_intC
def rAddS : R2 := fun x y H Q => ∃ i j, x = .str i ∧ y = .str j ∧ i.length + j.length ≤ sizeLine ∧ Q (.str (i ++ j)) H
def rAdd (K : KW) : R2 := fun x y H Q => rI0 (fun i j => .int (i + j)) x y H Q ∨ rAddS x y H Q ∨ rCatX K x y H Q ∨ rCat x y H Q
theorem op_addA : OpR X (binaryOp .Add) (rAdd (kw X)) := op_add.or (op_add_str.or (op_catX.or op_cat))
/-- a + b: ints, texts, tuples, lists -/
def gAdd : W → W → (W → Prop) → Prop
  | .d (.int i), .d (.int j), Q => Q (.d (.int (i + j)))
  | .d (.str i), .d (.str j), Q => i.length + j.length ≤ sizeLine ∧ Q (.d (.str (i ++ j)))
  | .d (.tuple i), .d (.tuple j), Q => i.length + j.length ≤ sizeLine ∧ Q (.d (.tuple (i ++ j)))
  | x, y, Q => onM2 x y fun i j => i.length + j.length ≤ sizeLine ∧ Q (.l (i ++ j))
theorem Is.inT {G : Hp} {v : V} {xs : List PyData} (h : Is K G v (.tuple xs)) : ∃ p vs, v = .ref p ∧ SqT K G p vs ∧ xs.length ≤ sizeLine ∧ IsAll K G vs xs := by
  cases h with | tup hs _ z ha => exact ⟨_, _, rfl, hs, z, ha⟩
theorem Is.inTD {G : Hp} {v : V} {xs : List PyData} (h : Is K G v (.tuple xs)) : ∃ p vs, v = .ref p ∧ SqT K G p vs ∧ TupD K G p ∧ xs.length ≤ sizeLine ∧ IsAll K G vs xs := by
  cases h with | tup hs hd z ha => exact ⟨_, _, rfl, hs, hd, z, ha⟩
theorem str_len (a b : Str) : (a ++ b).length = a.length + b.length := by
  show (a.cps ++ b.cps).size = _
  rw [Array.size_append]; rfl
theorem okS.app {a b : Str} (ha : okS a) (hb : okS b) (z : a.length + b.length ≤ sizeLine) : okS (a ++ b) := by
  refine ⟨by rw [str_len]; exact z, ?_⟩
  have h1 := ha.2
  have h2 := hb.2
  unfold PyData.strOk at h1 h2 ⊢
  show (a.cps ++ b.cps).all _ = true
  rw [Array.all_append, h1, h2]; rfl
theorem od_add : OpD K (rAdd K) gAdd := by
  intro G0 H0 Hx Hy G H σ ρ x y wx wy Q' Q E rx ry q k
  unfold gAdd at q
  split at q
  · cases rx; cases ry
    exact .inl ⟨_, _, rfl, rfl, k _ (.d (.int _)) G H (Up.refl E.gh) (.int _) q⟩
  · cases rx with | str _ z1 =>
    cases ry with | str _ z2 =>
    obtain ⟨z, q⟩ := q
    exact .inr (.inl ⟨_, _, rfl, rfl, z, k _ (.d (.str _)) G H (Up.refl E.gh) (.str _ (z1.app z2 z)) q⟩)
  · obtain ⟨z, q⟩ := q
    obtain ⟨p, us, rfl, h1, z1, a1⟩ := Is.inT rx
    obtain ⟨p2, vs, rfl, h2, z2, a2⟩ := Is.inT ry
    rename_i i j
    refine .inr (.inr (.inl ⟨p, p2, us, vs, rfl, rfl, E.gh.sqT h1, E.gh.sqT h2, by rw [a1.len, a2.len]; exact z, fun e => ?_, fun _ e => ?_, fun _ _ p3 hp o od => ?_⟩))
    · subst e
      have e1 : i = [] := by have := a1.len; simpa using this.symm
      subst e1
      exact k _ (.d (.tuple j)) G H (Up.refl E.gh) ry q
    · subst e
      have e1 : j = [] := by have := a2.len; simpa using this.symm
      subst e1
      rw [List.append_nil] at q
      exact k _ (.d (.tuple i)) G H (Up.refl E.gh) rx q
    · exact k _ (.d (.tuple (i ++ j))) _ _ (Up.newG E.gh hp) (Is.newT od (E.gh.back hp) (by rw [List.length_append]; exact z) (a1.append a2)) q
  · unfold onM2 at q
    split at q
    · rename_i i j e1 e2
      obtain ⟨z, q⟩ := q
      obtain ⟨p, us, rfl, h1, z1, a1⟩ := rx.asM E e1
      obtain ⟨p2, vs, rfl, h2, z2, a2⟩ := ry.asM E e2
      refine .inr (.inr (.inr ⟨p, p2, us, vs, rfl, rfl, h1, h2, by rw [a1.len, a2.len]; exact z, fun p3 hp => ?_⟩))
      exact k _ (.l (i ++ j)) G _ (Up.newH E.gh hp) ⟨p3, _, rfl, hp, E.gh.back hp, trivial, upd_same, by rw [List.length_append]; exact z, a1.append a2⟩ q
    · exact q.elim
def gNeg : W → (W → Prop) → Prop := fun x Q => match x with
  | .d (.int i) => Q (.d (.int (-i)))
  | _ => False
def dNeg (t : TEd) : TEd := fun ρ Q => t ρ fun x => gNeg x Q
theorem d_neg {Z : Wish} {a : Expr} {ta : TEd} {pos : Pos} (ha : PD X Z a ta) : PD X Z (.UnaryOp .USub a pos) (dNeg ta) := by
  obtain ⟨ua, pa, sa⟩ := ha
  refine ⟨_, pe_un un_neg pa, fun G0 H0 G H σ ρ Q' Q E gd hh k => ?_⟩
  refine sa G0 H0 G H σ ρ _ _ E gd hh fun v w G1 H1 u1 r1 q1 => ?_
  cases w with
  | d y =>
    cases y with
    | int i => cases r1; exact ⟨i, rfl, k _ (.d (.int (-i))) G1 H1 u1 (.int _) q1⟩
    | _ => exact q1.elim
  | _ => exact q1.elim

/-! comparisons -/
def gLt : W → W → (W → Prop) → Prop := fun x y Q => onI2 x y fun i j => Q (.d (.bool (decide (i < j))))
def gLe : W → W → (W → Prop) → Prop := fun x y Q => onI2 x y fun i j => Q (.d (.bool (decide (i ≤ j))))
def gGt : W → W → (W → Prop) → Prop := fun x y Q => onI2 x y fun i j => Q (.d (.bool (decide (j < i))))
def gGe : W → W → (W → Prop) → Prop := fun x y Q => onI2 x y fun i j => Q (.d (.bool (decide (j ≤ i))))
theorem od_lt : OpD K (rI0 fun i j => .bl (decide (i < j))) gLt := opD_bool
theorem od_le : OpD K (rI0 fun i j => .bl (decide (i ≤ j))) gLe := opD_bool
theorem od_gt : OpD K (rI0 fun i j => .bl (decide (j < i))) gGt := opD_bool
theorem od_ge : OpD K (rI0 fun i j => .bl (decide (j ≤ i))) gGe := opD_bool
/-- == of data -/
def eqD : PyData → PyData → Bool
  | .int i, .int j => decide (i = j)
  | .str i, .str j => decide (i = j)
  | .bool i, .bool j => decide (i = j)
  | x, y => PyData.eqv x y
/-- not too deep to be compared, no dict in it -/
def shD : PyData → Prop
  | .int _ => True
  | .str _ => True
  | .bool _ => True
  | .none => True
  | x => noDct x = true ∧ x.depth ≤ 64
theorem shD_nd {x : PyData} (h : shD x) : noDct x = true := by
  cases x <;> first | exact h.1 | rfl
theorem shD_dp {x : PyData} (h : shD x) : x.depth ≤ 64 := by
  cases x <;> first | exact h.2 | (simp [PyData.depth])
theorem shD_ok {x : PyData} (l : noDct x = true → x.canLay0 = true) (h : shD x) : SeqAt.shaped x = true := by
  unfold SeqAt.shaped
  rw [l (shD_nd h), Bool.true_and, decide_eq_true_eq]
  exact shD_dp h
theorem eqD_ok (x y : PyData) : eqD x y = PyData.eqv x y := by
  unfold eqD
  split
  · simp only [PyData.eqv]; rw [Bool.eq_iff_iff]; simp
  · simp only [PyData.eqv]; rw [Bool.eq_iff_iff]; simp
  · simp only [PyData.eqv]; rw [Bool.eq_iff_iff]; simp
  · rfl
def onD2 (x y : W) (k : PyData → PyData → Prop) : Prop := match asD x, asD y with
  | some i, some j => k i j
  | _, _ => False
/-- the answer of ==, of data that is not too deep -/
def eqK (x y : PyData) (k : Bool → Prop) : Prop := match x, y with
  | .int i, .int j => k (decide (i = j))
  | .str i, .str j => k (decide (i = j))
  | .bool i, .bool j => k (decide (i = j))
  | x, y => shD x ∧ shD y ∧ k (PyData.eqv x y)
theorem eqK_of {x y : PyData} {k : Bool → Prop} (h : eqK x y k) : shD x ∧ shD y ∧ k (PyData.eqv x y) := by
  rw [← eqD_ok]
  unfold eqK at h
  split at h
  · exact ⟨trivial, trivial, h⟩
  · exact ⟨trivial, trivial, h⟩
  · exact ⟨trivial, trivial, h⟩
  · rw [eqD_ok]; exact h
def gEq : W → W → (W → Prop) → Prop := fun x y Q => onD2 x y fun i j => eqK i j fun b => Q (.d (.bool b))
def gNe : W → W → (W → Prop) → Prop := fun x y Q => onD2 x y fun i j => eqK i j fun b => Q (.d (.bool (!b)))
theorem od_eq : OpD K (rEqD K) gEq := by
  intro G0 H0 Hx Hy G H σ ρ x y wx wy Q' Q E rx ry q k
  unfold gEq onD2 at q
  split at q
  · rename_i i j e1 e2
    obtain ⟨z1, z2, q⟩ := eqK_of q
    exact ⟨i, j, rx.asD E e1 (shD_nd z1), ry.asD E e2 (shD_nd z2), shD_ok (rx.lay e1) z1, shD_ok (ry.lay e2) z2, k _ (.d (.bool _)) G H (Up.refl E.gh) (.bl _) q⟩
  · exact q.elim
theorem od_ne : OpD K (rNeD K) gNe := by
  intro G0 H0 Hx Hy G H σ ρ x y wx wy Q' Q E rx ry q k
  unfold gNe onD2 at q
  split at q
  · rename_i i j e1 e2
    obtain ⟨z1, z2, q⟩ := eqK_of q
    exact ⟨i, j, rx.asD E e1 (shD_nd z1), ry.asD E e2 (shD_nd z2), shD_ok (rx.lay e1) z1, shD_ok (ry.lay e2) z2, k _ (.d (.bool _)) G H (Up.refl E.gh) (.bl _) q⟩
  · exact q.elim
/-- is None -/
def isNonW : W → Bool
  | .d .none => true
  | _ => false
theorem isNon_of {H0 Hs G H : Hp} {v : V} {w : W} (r : RR K H0 Hs G H v w) : decide (v = .non) = isNonW w := by
  cases w with
  | d y =>
    cases r <;> simp [isNonW]
  | l xs => obtain ⟨p, vs, rfl, _⟩ := r; simp [isNonW]
  | b xs => obtain ⟨p, vs, rfl, _⟩ := r; simp [isNonW]
  | r xs => obtain ⟨p, vs, rfl, _⟩ := r; simp [isNonW]
  | drw => obtain ⟨p, rfl, _⟩ := r; simp [isNonW]
  | x y =>
    cases y <;> (obtain ⟨p, vs, rfl, _⟩ := r; simp [isNonW])
def gIsN : W → W → (W → Prop) → Prop := fun x y Q => isNonW y = true ∧ Q (.d (.bool (isNonW x)))
def gNotN : W → W → (W → Prop) → Prop := fun x y Q => isNonW y = true ∧ Q (.d (.bool (!isNonW x)))
theorem od_isN : OpD K (fun x y H Q => y = .non ∧ Q (.bl (decide (x = .non))) H) gIsN := by
  intro G0 H0 Hx Hy G H σ ρ x y wx wy Q' Q E rx ry q k
  obtain ⟨z, q⟩ := q
  rw [← isNon_of ry] at z
  rw [← isNon_of rx] at q
  exact ⟨of_decide_eq_true z, k _ (.d (.bool _)) G H (Up.refl E.gh) (.bl _) q⟩
theorem od_notN : OpD K (fun x y H Q => y = .non ∧ Q (.bl (!decide (x = .non))) H) gNotN := by
  intro G0 H0 Hx Hy G H σ ρ x y wx wy Q' Q E rx ry q k
  obtain ⟨z, q⟩ := q
  rw [← isNon_of ry] at z
  rw [← isNon_of rx] at q
  exact ⟨of_decide_eq_true z, k _ (.d (.bool _)) G H (Up.refl E.gh) (.bl _) q⟩
/-- in: a text in a text, an item in a list -/
def rInA (K : KW) : R2 := fun x y H Q => (∃ i j, x = .str i ∧ y = .str j ∧ Q (.bl (!(Builtin.Str.occurrences j i 0 j.length 1).isEmpty)) H) ∨ rInD K x y H Q ∨ rIn K false x y H Q
def rNotInA (K : KW) : R2 := fun x y H Q => (∃ i j, x = .str i ∧ y = .str j ∧ Q (.bl (!(!(Builtin.Str.occurrences j i 0 j.length 1).isEmpty))) H) ∨ rNotInD K x y H Q ∨ rIn K true x y H Q
theorem op_inA (hu : X.A.units + 65 < cLine) : OpR X (compareOp .In) (rInA (kw X)) := op_in_str.or ((op_inD hu).or op_in_seq)
theorem op_notInA (hu : X.A.units + 65 < cLine) : OpR X (compareOp .NotIn) (rNotInA (kw X)) := op_notin_str.or ((op_notInD hu).or op_notIn_seq)
/-- a sub-text -/
def subS (i j : Str) : Bool := !(Builtin.Str.occurrences j i 0 j.length 1).isEmpty
def shAll (xs : List PyData) : Prop := noDcts xs = true ∧ PyData.depthAll xs ≤ 63
/-- scalars -/
def flatD : PyData → Bool
  | .int _ => true
  | .str _ => true
  | .bool _ => true
  | .none => true
  | _ => false
def inD (x : PyData) (ys : List PyData) : Bool := ys.any fun z => PyData.eqv z x
def gInB (neg : Bool) (x y : W) (Q : W → Prop) : Prop := match x, y with
  | .d (.str i), .d (.str j) => Q (.d (.bool (if neg then !subS i j else subS i j)))
  | x, .d (.tuple ys) => match x with
    | .d z => flatD z = true ∧ ys.all flatD = true ∧ Q (.d (.bool (if neg then !inD z ys else inD z ys)))
    | _ => False
  | x, y => match asD x, asL y with
    | some i, some ys => shD i ∧ shAll ys ∧ Q (.d (.bool (if neg then !inD i ys else inD i ys)))
    | _, _ => False
def gIn : W → W → (W → Prop) → Prop := gInB false
def gNotIn : W → W → (W → Prop) → Prop := gInB true
theorem flat_of {G : Hp} {v : V} {d : PyData} (h : Is K G v d) (f : flatD d = true) : flatV v = true := by
  cases d with
  | none => cases h; rfl
  | bool b => cases h; rfl
  | int i => cases h; rfl
  | str x => cases h; rfl
  | _ => simp [flatD] at f
theorem eqv_flat {G : Hp} {v u : V} {d e : PyData} (h : Is K G v d) (h' : Is K G u e) (f : flatD d = true) (f' : flatD e = true) : eqV v u = PyData.eqv d e := by
  cases d with
  | none => cases h; cases e with
    | none => cases h'; rfl
    | bool b => cases h'; rfl
    | int i => cases h'; rfl
    | str x => cases h'; rfl
    | _ => simp [flatD] at f'
  | bool b => cases h; cases e with
    | none => cases h'; rfl
    | bool b => cases h'; simp [eqV, PyData.eqv]
    | int i => cases h'; simp [eqV, PyData.eqv]
    | str x => cases h'; rfl
    | _ => simp [flatD] at f'
  | int i => cases h; cases e with
    | none => cases h'; rfl
    | bool b => cases h'; simp [eqV, PyData.eqv]
    | int i => cases h'; simp [eqV, PyData.eqv]
    | str x => cases h'; rfl
    | _ => simp [flatD] at f'
  | str x => cases h; cases e with
    | none => cases h'; rfl
    | bool b => cases h'; rfl
    | int i => cases h'; rfl
    | str x => cases h'; simp [eqV, PyData.eqv]
    | _ => simp [flatD] at f'
  | _ => simp [flatD] at f
theorem flats_of {G : Hp} : ∀ {ds : List PyData} {vs : List V}, IsAll K G vs ds → ds.all flatD = true → vs.all flatV = true
  | [], _, h, _ => by cases h; rfl
  | d :: ds, _, h, f => by
    cases h with | cons h1 h2 =>
    rw [List.all_cons, Bool.and_eq_true] at f ⊢
    exact ⟨flat_of h1 f.1, flats_of h2 f.2⟩
theorem inV_flat {G : Hp} {v : V} {d : PyData} (h : Is K G v d) (f : flatD d = true) : ∀ {ds : List PyData} {vs : List V}, IsAll K G vs ds → ds.all flatD = true → inV v vs = inD d ds
  | [], _, h, _ => by cases h; rfl
  | e :: ds, _, hs, fs => by
    cases hs with | cons h1 h2 =>
    rw [List.all_cons, Bool.and_eq_true] at fs
    have ih := inV_flat h f h2 fs.2
    unfold inV inD at ih ⊢
    rw [List.any_cons, List.any_cons, ih, eqv_flat h1 h fs.1 f]
theorem od_inB (neg : Bool) : OpD K (if neg then rNotInA K else rInA K) (gInB neg) := by
  intro G0 H0 Hx Hy G H σ ρ x y wx wy Q' Q E rx ry q k
  unfold gInB at q
  split at q
  · cases rx; cases ry
    cases neg with
    | false => exact .inl ⟨_, _, rfl, rfl, k _ (.d (.bool _)) G H (Up.refl E.gh) (.bl _) q⟩
    | true => exact .inl ⟨_, _, rfl, rfl, k _ (.d (.bool _)) G H (Up.refl E.gh) (.bl _) q⟩
  · split at q
    · obtain ⟨f1, f2, q⟩ := q
      obtain ⟨p, vs, rfl, h1, z1, a1⟩ := Is.inT ry
      have e := inV_flat rx f1 a1 f2
      cases neg with
      | false => exact .inr (.inr ⟨p, vs, rfl, .inr (E.gh.sqT h1), flat_of rx f1, flats_of a1 f2, k _ (.d (.bool _)) G H (Up.refl E.gh) (.bl _) (by rw [e]; exact q)⟩)
      | true => exact .inr (.inr ⟨p, vs, rfl, .inr (E.gh.sqT h1), flat_of rx f1, flats_of a1 f2, k _ (.d (.bool _)) G H (Up.refl E.gh) (.bl _) (by rw [e]; exact q)⟩)
    · exact q.elim
  · split at q
    · rename_i i ys e1 e2
      obtain ⟨f1, f2, q⟩ := q
      obtain ⟨p, vs, rfl, h1, z1, a1⟩ := ry.asL E e2
      have hl : Dp K H (.ref p) (.list ys) := .lst h1 (IsAll.dp (a1.up E.gh) f2.1)
      have hs : SeqAt.shaped (.list ys) = true := by
        unfold SeqAt.shaped
        rw [Bool.and_eq_true, decide_eq_true_eq]
        refine ⟨by simp only [PyData.canLay0]; exact IsAll.lay a1 f2.1, ?_⟩
        have := f2.2
        simp only [PyData.depth]
        omega
      cases neg with
      | false => exact .inr (.inl ⟨i, ys, rx.asD E e1 (shD_nd f1), hl, shD_ok (rx.lay e1) f1, hs, k _ (.d (.bool _)) G H (Up.refl E.gh) (.bl _) q⟩)
      | true => exact .inr (.inl ⟨i, ys, rx.asD E e1 (shD_nd f1), hl, shD_ok (rx.lay e1) f1, hs, k _ (.d (.bool _)) G H (Up.refl E.gh) (.bl _) q⟩)
    · exact q.elim
theorem od_in : OpD K (rInA K) gIn := od_inB false
theorem od_notIn : OpD K (rNotInA K) gNotIn := od_inB true
end
end DL

/-! DL3: argument lists, displays, calls of built-ins, items, slices, what is walked, comprehensions. -/
namespace DL
open PySem PySem.Spec PyProof.Rows L2

/-! ### arguments, displays -/
def dNil : TAd := fun _ Q => Q []
def dCons (t : TEd) (u : TAd) : TAd := fun ρ Q => t ρ fun w => u ρ fun ws => Q (w :: ws)
section
variable {X : Cx} {Z : Wish} {pos : Pos} {e a b : Expr} {es : List Expr} {t ta tb : TEd} {u : TAd} {K : KW}
theorem da_nil : PDA X Z [] dNil := ⟨_, pa_nil, fun G0 H0 G H σ ρ Q' Q E gd h k => k [] [] G H (Up.refl E.gh) .nil h⟩
theorem snd_cons {te : TE} {ts : TA} (s1 : Snd K Z te t) (s2 : SndA K Z ts u) : SndA K Z (tCons te ts) (dCons t u) := by
  intro G0 H0 G H σ ρ Q' Q E gd hh k
  refine s1 G0 H0 G H σ ρ _ _ E gd hh fun v w G1 H1 u1 r1 q1 => ?_
  refine s2 G0 H0 G1 H1 σ ρ _ _ (E.to u1) gd q1 fun vs ws G2 H2 u2 r2 q2 => ?_
  exact k (v :: vs) (w :: ws) G2 H2 (u1.trans u2) (.cons (r1.up u2) (r2.at u1.h)) q2
theorem da_cons (h1 : PD X Z e t) (h2 : PDA X Z es u) (hs : starEach (e :: es) X.env = (false, eval e X.env) :: starEach es X.env := by rfl) : PDA X Z (e :: es) (dCons t u) := by
  obtain ⟨te, p1, s1⟩ := h1
  obtain ⟨ts, p2, s2⟩ := h2
  exact ⟨_, pa_cons p1 p2 hs, snd_cons s1 s2⟩
def onF (ws : List W) (k : List PyData → Prop) : Prop := match frzs ws with
  | some xs => k xs
  | none => False
/-- a written display: few items -/
def fewD (xs : List PyData) (k : Prop) : Prop := if Nat.ble xs.length 1000 = true then k else False
theorem fewD_of {xs : List PyData} {k : Prop} (h : fewD xs k) : xs.length ≤ sizeLine ∧ k := by
  unfold fewD at h
  split at h
  · rename_i e
    have := Nat.le_of_ble_eq_true e
    exact ⟨by rw [sizeLine_eq]; omega, h⟩
  · exact h.elim
def dTup (u : TAd) : TEd := fun ρ Q => u ρ fun ws => onF ws fun xs => fewD xs (Q (.d (.tuple xs)))
def dLst (u : TAd) : TEd := fun ρ Q => u ρ fun ws => onF ws fun xs => fewD xs (Q (.l xs))
theorem d_tup {k0} (h : PDA X Z es u) : PD X Z (.Tuple es k0 pos) (dTup u) := by
  obtain ⟨ts, p, s⟩ := h
  refine ⟨_, pe_tupX p, fun G0 H0 G H σ ρ Q' Q E gd hh k => ?_⟩
  refine s G0 H0 G H σ ρ _ _ E gd hh fun vs ws G1 H1 u1 r1 q1 => ?_
  unfold onF at q1
  cases e1 : frzs ws with
  | none => rw [e1] at q1; exact q1.elim
  | some xs =>
    rw [e1] at q1
    obtain ⟨z, q⟩ := fewD_of q1
    have a := r1.frz u1.gh e1
    refine ⟨by rw [a.len]; exact z, fun p3 hp o od => ?_⟩
    have u2 := frzAll_up u1
    have u3 := u2.trans (Up.newG (o := .frz o (.tup vs)) u2.gh hp)
    exact k (.ref p3) (.d (.tuple xs)) _ _ u3 (Is.newT od (u2.gh.back hp) z a) q
theorem d_lst (h : PDA X Z es u) : PD X Z (.List es pos) (dLst u) := by
  obtain ⟨ts, p, s⟩ := h
  refine ⟨_, pe_lst p, fun G0 H0 G H σ ρ Q' Q E gd hh k => ?_⟩
  refine s G0 H0 G H σ ρ _ _ E gd hh fun vs ws G1 H1 u1 r1 q1 => ?_
  unfold onF at q1
  cases e1 : frzs ws with
  | none => rw [e1] at q1; exact q1.elim
  | some xs =>
    rw [e1] at q1
    obtain ⟨z, q⟩ := fewD_of q1
    have a := r1.frz u1.gh e1
    refine ⟨by rw [a.len]; exact z, fun p3 hp => ?_⟩
    have u2 := frzAll_up u1
    have u3 := u2.trans (Up.newH (o := .lst vs) u2.gh hp)
    exact k (.ref p3) (.l xs) _ _ u3 ⟨p3, vs, rfl, u1.h.back hp, u2.gh.back hp, trivial, upd_same, z, a⟩ q

/-! ### items -/
def rIxA (K : KW) : R2 := rIx K
def onI (w : W) (k : Int → Prop) : Prop := match w with
  | .d (.int i) => k i
  | _ => False
theorem onI_of {H0 Hs G H : Hp} {v : V} {w : W} {k : Int → Prop} (r : RR K H0 Hs G H v w) (h : onI w k) : ∃ i, v = .int i ∧ k i := by
  unfold onI at h
  split at h
  · cases r; exact ⟨_, rfl, h⟩
  · exact h.elim
def chS (c : Nat) : PyData := .str ⟨#[c]⟩
/-- x[i] -/
def gIx : W → W → (W → Prop) → Prop := fun x y Q => onI y fun i => match x with
  | .d (.str z) => ∃ c, atI z.cps.toList i = some c ∧ Q (.d (chS c))
  | w => match asQ w with
    | some xs => ∃ d, atI xs i = some d ∧ Q (.d d)
    | none => False
theorem atI_all {G : Hp} {vs : List V} {ds : List PyData} {i : Int} {d : PyData} (h : IsAll K G vs ds) (e : atI ds i = some d) : ∃ v, atI vs i = some v ∧ Is K G v d := by
  have hl := h.len
  unfold atI at e ⊢
  rw [hl]
  cases e1 : ixN ds.length i with
  | none => rw [e1] at e; cases e
  | some j =>
    rw [e1] at e
    exact h.get e
theorem strOk_mem {z : Str} {c : Nat} (h : PyData.strOk z = true) (hc : c ∈ z.cps.toList) : c < 0x110000 := by
  unfold PyData.strOk at h
  rw [Array.all_eq_true'] at h
  have := h c (Array.mem_toList_iff.mp hc)
  simpa using this
theorem okS_ch {c : Nat} (h : c < 0x110000) : okS ⟨#[c]⟩ := by
  refine ⟨?_, ?_⟩
  · show 1 ≤ sizeLine; rw [sizeLine_eq]; decide
  · simp [PyData.strOk, h]
theorem atI_mem {α : Type} {xs : List α} {i : Int} {c : α} (h : atI xs i = some c) : c ∈ xs := by
  unfold atI at h
  cases e : ixN xs.length i with
  | none => rw [e] at h; cases h
  | some j => rw [e] at h; exact List.mem_of_getElem? h
theorem od_ix : OpD K (rIx K) gIx := by
  intro G0 H0 Hx Hy G H σ ρ x y wx wy Q' Q E rx ry q k
  unfold gIx at q
  obtain ⟨i, rfl, q⟩ := onI_of ry q
  split at q
  · obtain ⟨c, e, q⟩ := q
    cases rx with | str z ok =>
    exact .inr (.inr ⟨_, i, c, rfl, rfl, ok.1, e, k _ (.d (chS c)) G H (Up.refl E.gh) (.str _ (okS_ch (strOk_mem ok.2 (atI_mem e)))) q⟩)
  · split at q
    · rename_i xs e1
      obtain ⟨d, e, q⟩ := q
      obtain ⟨p, vs, rfl, h1, z, a⟩ := rx.asQ E e1
      obtain ⟨v, e2, i2⟩ := atI_all a e
      rcases h1 with h1 | h1
      · exact .inl ⟨p, vs, i, v, rfl, rfl, h1, e2, k v (.d d) G H (Up.refl E.gh) i2 q⟩
      · exact .inr (.inl ⟨p, vs, i, v, rfl, rfl, h1, e2, k v (.d d) G H (Up.refl E.gh) i2 q⟩)
    · exact q.elim
theorem d_ix (ha : PD X Z a ta) (hb : PD X Z b tb) (hs : PlainIx b := by exact fun _ _ => rfl) : PD X Z (.Subscript a b pos) (dOp gIx ta tb) := by
  obtain ⟨ua, pa, sa⟩ := ha
  obtain ⟨ub, pb, sb⟩ := hb
  exact ⟨_, pe_ix ix_seq pa pb hs, snd_op od_ix sa sb⟩

/-! ### slices -/
abbrev TOd := En → (Option Int → Prop) → Prop
def SndO (K : KW) (Z : Wish) (te : TO) (t : TOd) : Prop := ∀ (G0 H0 G H : Hp) (σ : L2.St) (ρ : En) (Q' : Option Int → Prop) (Q : Option Int → Hp → Prop), DEnv K G0 H0 G H σ ρ → Good K Z G0 H0 → t ρ Q' →
  (∀ o G' H', Up G H G' H' → Q' o → Q o H') → te σ H Q
def PDO (X : Cx) (Z : Wish) (e : Option Expr) (t : TOd) : Prop := ∃ te, PO X e te ∧ SndO (kw X) Z te t
def dNoP : TOd := fun _ Q => Q none
def dPart (t : TEd) : TOd := fun ρ Q => t ρ fun w => onI w fun i => Q (some i)
theorem do_none : PDO X Z none dNoP := ⟨_, po_none, fun G0 H0 G H σ ρ Q' Q E gd h k => k none G H (Up.refl E.gh) h⟩
theorem do_some (h : PD X Z e t) : PDO X Z (some e) (dPart t) := by
  obtain ⟨te, p, s⟩ := h
  refine ⟨_, po_some p, fun G0 H0 G H σ ρ Q' Q E gd hh k => ?_⟩
  refine s G0 H0 G H σ ρ _ _ E gd hh fun v w G1 H1 u1 r1 q1 => ?_
  obtain ⟨i, rfl, q⟩ := onI_of r1 q1
  exact ⟨i, rfl, k (some i) G1 H1 u1 q⟩
def cutD (xs : List PyData) (lo hi : Option Int) : List PyData := (xs.drop (HT.sIx xs.length 0 lo)).take (HT.sIx xs.length xs.length hi - HT.sIx xs.length 0 lo)
theorem cutD_all {G : Hp} {vs : List V} {ds : List PyData} (lo hi : Option Int) (h : IsAll K G vs ds) : IsAll K G (cutV vs lo hi) (cutD ds lo hi) := by
  unfold cutV cutD
  rw [h.len]
  exact (h.drop _).take _
theorem cutD_len (xs : List PyData) (lo hi : Option Int) : (cutD xs lo hi).length ≤ xs.length := by
  unfold cutD
  rw [List.length_take, List.length_drop]
  omega
def rSlX (K : KW) : V → Option Int → Option Int → Hp → VK → Prop := fun x lo hi H Q => rSlS x lo hi H Q ∨ rSlAX K x lo hi H Q ∨ rSlL K x lo hi H Q
theorem sl_x : SlR X (rSlX (kw X)) := sl_str.or (sl_tupAX.or sl_list)
def gSl (x : W) (lo hi : Option Int) (Q : W → Prop) : Prop := match x with
  | .d (.str z) => Q (.d (.str (cutS z lo hi)))
  | .d (.tuple xs) => Q (.d (.tuple (cutD xs lo hi)))
  | w => match asL w with
    | some xs => Q (.l (cutD xs lo hi))
    | none => False
def dSl (t : TEd) (l h : TOd) : TEd := fun ρ Q => t ρ fun x => l ρ fun lo => h ρ fun hi => gSl x lo hi Q
theorem okS_cut {z : Str} (lo hi : Option Int) (h : okS z) : okS (cutS z lo hi) := by
  refine ⟨Nat.le_trans (cutS_length z lo hi) h.1, ?_⟩
  have h2 := h.2
  unfold PyData.strOk at h2 ⊢
  rw [Array.all_eq_true'] at h2 ⊢
  intro c hc
  refine h2 c ?_
  have hc' : c ∈ ((z.cps.toList.drop (HT.sIx z.length 0 lo)).take (HT.sIx z.length z.length hi - HT.sIx z.length 0 lo)).toArray := hc
  rw [List.mem_toArray] at hc'
  exact Array.mem_toList_iff.mp (List.mem_of_mem_drop (List.mem_of_mem_take hc'))
theorem cutV_whole {xs : List V} {lo hi : Option Int} (h : HT.sIx xs.length 0 lo = 0 ∧ HT.sIx xs.length xs.length hi = xs.length) : cutV xs lo hi = xs := by
  unfold cutV
  rw [h.1, h.2]
  simp
theorem d_slice {lo hi : Option Expr} {p2 : Pos} {tl th : TOd} (ha : PD X Z a ta) (hl : PDO X Z lo tl) (hh : PDO X Z hi th) : PD X Z (.Subscript a (.Slice lo hi none p2) pos) (dSl ta tl th) := by
  obtain ⟨ua, pa, sa⟩ := ha
  obtain ⟨ul, pl, sl⟩ := hl
  obtain ⟨uh, ph, sh⟩ := hh
  refine ⟨_, pe_slice sl_x pa pl ph, fun G0 H0 G H σ ρ Q' Q E gd hh k => ?_⟩
  refine sa G0 H0 G H σ ρ _ _ E gd hh fun v w G1 H1 u1 r1 q1 => ?_
  refine sl G0 H0 G1 H1 σ ρ _ _ (E.to u1) gd q1 fun lo G2 H2 u2 q2 => ?_
  refine sh G0 H0 G2 H2 σ ρ _ _ ((E.to u1).to u2) gd q2 fun hi G3 H3 u3 q3 => ?_
  have u4 := (u1.trans u2).trans u3
  have r3 := r1.up (u2.trans u3)
  have E3 := E.to u4
  unfold gSl at q3
  split at q3
  · rename_i z
    cases r3 with | str _ ok => exact .inl ⟨z, rfl, ok.1, k _ (.d (.str _)) G3 H3 u4 (.str _ (okS_cut lo hi ok)) q3⟩
  · rename_i xs
    obtain ⟨p, vs, rfl, h1, hdz, z1, a1⟩ := Is.inTD r3
    have c1 := cutD_all lo hi a1
    have zc := Nat.le_trans (cutD_len xs lo hi) z1
    refine .inr (.inl ⟨p, vs, rfl, E3.gh.sqT h1, fun hw => ?_, fun hw p3 hp o od => ?_⟩)
    · rw [cutV_whole hw] at c1
      exact k _ (.d (.tuple (cutD xs lo hi))) G3 H3 u4 (.tup h1 hdz zc c1) q3
    · exact k _ (.d (.tuple (cutD xs lo hi))) _ _ (u4.trans (Up.newG E3.gh hp)) (Is.newT od (E3.gh.back hp) zc c1) q3
  · split at q3
    · rename_i xs e1
      obtain ⟨p, vs, rfl, h1, z1, a1⟩ := r3.asL E3 e1
      refine .inr (.inr ⟨p, vs, rfl, h1, fun p3 hp => ?_⟩)
      exact k _ (.l (cutD xs lo hi)) _ _ (u4.trans (Up.newH E3.gh hp)) ⟨p3, _, rfl, u4.h.back hp, E3.gh.back hp, trivial, upd_same, Nat.le_trans (cutD_len xs lo hi) z1, cutD_all lo hi a1⟩ q3
    · exact q3.elim

/-! ### calls of built-ins -/
/-- a rule on values, by data -/
def CallD (K : KW) (r : List V → Hp → VK → Prop) (g : List W → (W → Prop) → Prop) : Prop := ∀ (G0 H0 Hx G H : Hp) (σ : L2.St) (ρ : En) (vs : List V) (ws : List W) (Q' : W → Prop) (Q : VK), DEnv K G0 H0 G H σ ρ →
  RRs K H0 Hx G H vs ws → g ws Q' → (∀ v w G' H', Up G H G' H' → RR K H0 H G' H' v w → Q' w → Q v H') → r vs H Q
def dCB (g : List W → (W → Prop) → Prop) (u : TAd) : TEd := fun ρ Q => u ρ fun ws => g ws Q
theorem snd_cb {r : List V → Hp → VK → Prop} {g : List W → (W → Prop) → Prop} {ts : TA} (hg : CallD K r g) (s : SndA K Z ts u) : Snd K Z (tCB r ts) (dCB g u) := by
  intro G0 H0 G H σ ρ Q' Q E gd hh k
  refine s G0 H0 G H σ ρ _ _ E gd hh fun vs ws G1 H1 u1 r1 q1 => ?_
  exact hg G0 H0 H G1 H1 σ ρ vs ws Q' Q (E.to u1) r1 q1 fun v w G2 H2 u2 r2 q2 => k v w G2 H2 (u1.trans u2) (r2.at u1.h) q2
theorem d_cb {r : List V → Hp → VK → Prop} {g : List W → (W → Prop) → Prop} {x : Str} {p : Pos} {id : String} (hc : CallR X (.builtin id) r) (hg : CallD (kw X) r g) (hm : X.mg x = none) (hv : bootBuiltins x = some (.builtin id)) (ha : PDA X Z (e :: es) u)
    (hgl : Gl X x := by rfl) (hn : x ≠ "__name__" := by decide) (hdb : (x == ("__debug__" : Str)) = false := by decide)
    (he : starEach (e :: es) X.env = (false, eval e X.env) :: starEach es X.env := by rfl) (hpl : (backTo pos (starEach es X.env)).any (·.1) = false := by rfl) : PD X Z (.Call (.Name x p) (e :: es) [] pos) (dCB g u) := by
  obtain ⟨ts, pa, sa⟩ := ha
  exact ⟨_, pe_callB hc hgl hm hv pa hn hdb he hpl, snd_cb hg sa⟩
theorem d_cty {r : List V → Hp → VK → Prop} {g : List W → (W → Prop) → Prop} {x : Str} {p : Pos} {T : String} (hc : CallR X (.type T) r) (hg : CallD (kw X) r g) (hm : X.mg x = none) (hv : bootBuiltins x = some (.type T)) (ha : PDA X Z (e :: es) u)
    (hgl : Gl X x := by rfl) (hn : x ≠ "__name__" := by decide) (hdb : (x == ("__debug__" : Str)) = false := by decide)
    (he : starEach (e :: es) X.env = (false, eval e X.env) :: starEach es X.env := by rfl) (hpl : (backTo pos (starEach es X.env)).any (·.1) = false := by rfl) : PD X Z (.Call (.Name x p) (e :: es) [] pos) (dCB g u) := by
  obtain ⟨ts, pa, sa⟩ := ha
  exact ⟨_, pe_callTy hc hgl hm hv pa hn hdb he hpl, snd_cb hg sa⟩
theorem RRs.one {H0 Hs G H : Hp} {vs : List V} {w : W} (h : RRs K H0 Hs G H vs [w]) : ∃ v, vs = [v] ∧ RR K H0 Hs G H v w := by
  cases h with | cons a b => cases b; exact ⟨_, rfl, a⟩
theorem RRs.two {H0 Hs G H : Hp} {vs : List V} {w1 w2 : W} (h : RRs K H0 Hs G H vs [w1, w2]) : ∃ v1 v2, vs = [v1, v2] ∧ RR K H0 Hs G H v1 w1 ∧ RR K H0 Hs G H v2 w2 := by
  cases h with | cons a b => cases b with | cons c d => cases d; exact ⟨_, _, rfl, a, c⟩
/-- len -/
def rLen (K : KW) : List V → Hp → VK → Prop := fun xs H Q => (∃ p ys, xs = [.ref p] ∧ (SqL K H p ys ∨ SqT K H p ys) ∧ Q (.int ys.length) H) ∨ (∃ z, xs = [.str z] ∧ z.length ≤ sizeLine ∧ Q (.int z.length) H)
theorem call_lenX : CallR X (.builtin "len") (rLen (kw X)) := call_len_seq.or call_len_str
def gLen (ws : List W) (Q : W → Prop) : Prop := match ws with
  | [.d (.str z)] => z.length ≤ 16777216 → Q (.d (.int z.length))
  | [w] => match asQ w with
    | some xs => xs.length ≤ 16777216 → Q (.d (.int xs.length))
    | none => False
  | _ => False
theorem cd_len : CallD K (rLen K) gLen := by
  intro G0 H0 Hx G H σ ρ vs ws Q' Q E r q k
  unfold gLen at q
  split at q
  · obtain ⟨v, rfl, r1⟩ := r.one
    cases r1 with | str _ ok => exact .inr ⟨_, rfl, ok.1, k _ (.d (.int _)) G H (Up.refl E.gh) (.int _) (q (sizeLine_eq ▸ ok.1))⟩
  · obtain ⟨v, rfl, r1⟩ := r.one
    split at q
    · rename_i xs e1
      obtain ⟨p, us, rfl, h1, z, a⟩ := r1.asQ E e1
      replace q := q (sizeLine_eq ▸ z)
      rw [← a.len] at q
      exact .inl ⟨p, us, rfl, h1, k _ (.d (.int _)) G H (Up.refl E.gh) (.int _) q⟩
    · exact q.elim
  · exact q.elim
/-- int(x), x an int or a bool -/
def gInt (ws : List W) (Q : W → Prop) : Prop := match ws with
  | [.d (.int i)] => Q (.d (.int i))
  | [.d (.bool b)] => Q (.d (.int (if b then 1 else 0)))
  | _ => False
theorem cd_int : CallD K (fun xs H Q => (∃ i, xs = [.int i] ∧ Q (.int i) H) ∨ ∃ k, xs = [.bl k] ∧ Q (.int (if k then 1 else 0)) H) gInt := by
  intro G0 H0 Hx G H σ ρ vs ws Q' Q E r q k
  unfold gInt at q
  split at q
  · obtain ⟨v, rfl, r1⟩ := r.one; cases r1
    exact .inl ⟨_, rfl, k _ (.d (.int _)) G H (Up.refl E.gh) (.int _) q⟩
  · obtain ⟨v, rfl, r1⟩ := r.one; cases r1
    exact .inr ⟨_, rfl, k _ (.d (.int _)) G H (Up.refl E.gh) (.int _) q⟩
  · exact q.elim
def gAbs (ws : List W) (Q : W → Prop) : Prop := match ws with
  | [.d (.int i)] => Q (.d (.int (if i < 0 then -i else i)))
  | _ => False
theorem cd_abs : CallD K (fun xs H Q => ∃ i, xs = [.int i] ∧ Q (.int (if i < 0 then -i else i)) H) gAbs := by
  intro G0 H0 Hx G H σ ρ vs ws Q' Q E r q k
  unfold gAbs at q
  split at q
  · obtain ⟨v, rfl, r1⟩ := r.one; cases r1
    exact ⟨_, rfl, k _ (.d (.int _)) G H (Up.refl E.gh) (.int _) q⟩
  · exact q.elim
/-- all, any of a list of bools -/
def boolsD : List PyData → Option (List Bool)
  | [] => some []
  | .bool b :: r => (boolsD r).map (b :: ·)
  | _ :: _ => none
theorem boolsD_eq : ∀ {xs : List PyData} {bs : List Bool}, boolsD xs = some bs → xs = bs.map .bool
  | [], _, h => by cases h; rfl
  | .bool b :: r, bs, h => by
    unfold boolsD at h
    cases e : boolsD r with
    | none => rw [e] at h; cases h
    | some cs => rw [e] at h; cases h; rw [boolsD_eq e]; rfl
  | .none :: _, _, h => by cases h
  | .int _ :: _, _, h => by cases h
  | .str _ :: _, _, h => by cases h
  | .list _ :: _, _, h => by cases h
  | .tuple _ :: _, _, h => by cases h
  | .dict _ :: _, _, h => by cases h
theorem boolsD_map (bs : List Bool) : boolsD (bs.map .bool) = some bs := by
  induction bs with
  | nil => rfl
  | cons b r ih => show (boolsD (r.map .bool)).map (b :: ·) = _; rw [ih]; rfl
def onBs (ws : List W) (k : List Bool → Prop) : Prop := match ws with
  | [w] => ∃ (xs : List PyData) (bs : List Bool), asL w = some xs ∧ xs = bs.map PyData.bool ∧ k bs
  | _ => False
def gAll (ws : List W) (Q : W → Prop) : Prop := onBs ws fun bs => Q (.d (.bool (bs.all id)))
def gAny (ws : List W) (Q : W → Prop) : Prop := onBs ws fun bs => Q (.d (.bool (bs.any id)))
theorem onBs_of {G0 H0 Hs G H : Hp} {σ : L2.St} {ρ : En} {vs : List V} {ws : List W} {k : List Bool → Prop} (E : DEnv K G0 H0 G H σ ρ) (r : RRs K H0 Hs G H vs ws) (q : onBs ws k) : ∃ a bs, vs = [V.ref a] ∧ SqL K H a (bs.map V.bl) ∧ k bs := by
  unfold onBs at q
  split at q
  · obtain ⟨v, rfl, r1⟩ := r.one
    obtain ⟨xs, bs, e1, rfl, q⟩ := q
    obtain ⟨p, us, rfl, h1, z, a⟩ := r1.asL E e1
    rw [a.bools] at h1
    exact ⟨p, bs, rfl, h1, q⟩
  · exact q.elim
theorem cd_all : CallD K (rAll K) gAll := by
  intro G0 H0 Hx G H σ ρ vs ws Q' Q E r q k
  obtain ⟨a, bs, rfl, h, q⟩ := onBs_of E r q
  exact ⟨a, bs, rfl, h, k _ (.d (.bool _)) G H (Up.refl E.gh) (.bl _) q⟩
theorem cd_any : CallD K (rAny K) gAny := by
  intro G0 H0 Hx G H σ ρ vs ws Q' Q E r q k
  obtain ⟨a, bs, rfl, h, q⟩ := onBs_of E r q
  exact ⟨a, bs, rfl, h, k _ (.d (.bool _)) G H (Up.refl E.gh) (.bl _) q⟩
/-- max of a list of ints -/
def gMax (ws : List W) (Q : W → Prop) : Prop := match ws with
  | [w] => ∃ (xs : List PyData) (ns : List Int), asL w = some xs ∧ xs = ns.map PyData.int ∧ 0 < ns.length ∧ ∀ m, m ∈ ns → (∀ y, y ∈ ns → y ≤ m) → Q (.d (.int m))
  | _ => False
theorem cd_max : CallD K (rMax K) gMax := by
  intro G0 H0 Hx G H σ ρ vs ws Q' Q E r q k
  unfold gMax at q
  split at q
  · obtain ⟨v, rfl, r1⟩ := r.one
    obtain ⟨xs, ns, e1, rfl, l, q⟩ := q
    obtain ⟨p, us, rfl, h1, z, a⟩ := r1.asL E e1
    rw [a.ints] at h1
    exact ⟨p, ns, rfl, h1, l, fun m hm hy => k _ (.d (.int m)) G H (Up.refl E.gh) (.int _) (q m hm hy)⟩
  · exact q.elim
/-- tuple(x), list(x) of a list or a tuple -/
def gTuple (ws : List W) (Q : W → Prop) : Prop := match ws with
  | [w] => match asQ w with
    | some xs => Q (.d (.tuple xs))
    | none => False
  | _ => False
def gList (ws : List W) (Q : W → Prop) : Prop := match ws with
  | [w] => match asQ w with
    | some xs => Q (.l xs)
    | none => False
  | _ => False
theorem cd_tuple : CallD K (fun xs H Q => ∃ p ys, xs = [.ref p] ∧ ((SqL K H p ys ∧ ∀ l, H l = none → NewT H l ys (Q (.ref l))) ∨ (SqT K H p ys ∧ Q (.ref p) H))) gTuple := by
  intro G0 H0 Hx G H σ ρ vs ws Q' Q E r q k
  unfold gTuple at q
  split at q
  · rename_i w
    obtain ⟨v, rfl, r1⟩ := r.one
    split at q
    · rename_i xs e1
      have key : (∃ ys, w = .d (.tuple ys)) ∨ asL w = some xs := by
        cases w with
        | d y => cases y <;> first | exact .inr e1 | exact .inl ⟨_, rfl⟩
        | _ => exact .inr e1
      rcases key with ⟨ys, rfl⟩ | e2
      · cases e1
        have r' : Is K G v (.tuple xs) := r1
        obtain ⟨p, us, rfl, h1, z, a⟩ := Is.inT r'
        exact ⟨p, us, rfl, .inr ⟨E.gh.sqT h1, k _ (.d (.tuple xs)) G H (Up.refl E.gh) r' q⟩⟩
      · obtain ⟨p, us, rfl, h1, z, a⟩ := r1.asL E e2
        exact ⟨p, us, rfl, .inl ⟨h1, fun l hl o od => k _ (.d (.tuple xs)) _ _ (Up.newG E.gh hl) (Is.newT od (E.gh.back hl) z a) q⟩⟩
    · exact q.elim
  · exact q.elim
theorem cd_list : CallD K (fun xs H Q => ∃ p ys, xs = [.ref p] ∧ (SqL K H p ys ∨ SqT K H p ys) ∧ ∀ l, H l = none → Q (.ref l) (upd H l (.lst ys))) gList := by
  intro G0 H0 Hx G H σ ρ vs ws Q' Q E r q k
  unfold gList at q
  split at q
  · obtain ⟨v, rfl, r1⟩ := r.one
    split at q
    · rename_i xs e1
      obtain ⟨p, us, rfl, h1, z, a⟩ := r1.asQ E e1
      exact ⟨p, us, rfl, h1, fun l hl => k _ (.l xs) _ _ (Up.newH E.gh hl) ⟨l, us, rfl, hl, E.gh.back hl, trivial, upd_same, z, a⟩ q⟩
    · exact q.elim
  · exact q.elim
/-! isinstance -/
inductive Ty where
  | int | bool | str | tup | lst | non
  deriving DecidableEq
def Ty.nm : Ty → String
  | .int => "int" | .bool => "bool" | .str => "str" | .tup => "tuple" | .lst => "list" | .non => "NoneType"
def tyW : W → Option Ty
  | .d .none => some .non
  | .d (.bool _) => some .bool
  | .d (.int _) => some .int
  | .d (.str _) => some .str
  | .d (.list _) => some .lst
  | .d (.tuple _) => some .tup
  | .d (.dict _) => none
  | .l _ => some .lst
  | .b _ => some .lst
  | .r _ => some .lst
  | .drw => none
  | .x _ => none
def isTy : Ty → Ty → Bool
  | .int, .int => true | .bool, .int => true | .bool, .bool => true | .str, .str => true | .tup, .tup => true | .lst, .lst => true | .non, .non => true
  | _, _ => false
theorem kit_isTy {K : PySem.W.Frag} (a b : Ty) : PySem.W.kitOne K (.type a.nm) (.type b.nm) = some (isTy a b) := by
  refine kit_ty ?_
  cases a <;> cases b <;> decide +kernel
theorem tyL {H : Hp} {p : Addr} {vs : List V} (h : SqL K H p vs) : TyX K H (.ref p) (.type "list") := by
  rcases h with (h | ⟨o, h⟩) | ⟨o, its, n, h1, h2, h3, h4, h5, h6⟩
  · exact .base (.lst h)
  · exact .base (.frz h)
  · exact .kList h1 h2
theorem tyT {H : Hp} {p : Addr} {vs : List V} (h : SqT K H p vs) : TyX K H (.ref p) (.type "tuple") := by
  rcases h with (h | ⟨o, h⟩) | ⟨o, its, n, h1, h2, h3, h4, h5⟩
  · exact .base (.tup h)
  · exact .fTuple h
  · exact .kTuple h1 h2
theorem tyX_of {G0 H0 Hs G H : Hp} {σ : L2.St} {ρ : En} {v : V} {w : W} {t : Ty} (E : DEnv K G0 H0 G H σ ρ) (r : RR K H0 Hs G H v w) (e : tyW w = some t) : TyX K H v (.type t.nm) := by
  cases w with
  | d y =>
    cases y with
    | none => cases e; cases r; exact .base .non
    | bool b => cases e; cases r; exact .base (.bl b)
    | int i => cases e; cases r; exact .base (.int i)
    | str x => cases e; cases r; exact .base (.str x)
    | list xs => cases e; cases r with | lst hs z ha => exact .base (.lst (E.gh _ _ hs))
    | tuple xs => cases e; cases r with | tup hs _ z ha => exact tyT (E.gh.sqT hs)
    | dict kvs => cases e
  | drw => cases e
  | x y => cases e
  | l xs => cases e; obtain ⟨p, vs, rfl, h, z, a⟩ := RR.asL r E rfl; exact tyL h
  | b xs => cases e; obtain ⟨p, vs, rfl, h, z, a⟩ := RR.asL r E rfl; exact tyL h
  | r xs => cases e; obtain ⟨p, vs, rfl, h, z, a⟩ := RR.asL r E rfl; exact tyL h
def gIsi (ts : List Ty) (w : W) (Q : W → Prop) : Prop := match tyW w with
  | some t => Q (.d (.bool (ts.any (isTy t))))
  | none => False
def dIsi (ts : List Ty) (t : TEd) : TEd := fun ρ Q => t ρ fun w => gIsi ts w Q
/-- isinstance(e, T) -/
theorem d_isi {p p2 : Pos} {y : Str} (T : Ty) (hm : X.mg "isinstance" = none) (hmT : X.mg y = none) (hv : bootBuiltins y = some (.type T.nm)) (ha : PD X Z e t) (hv1 : bootBuiltins "isinstance" = some (.builtin "isinstance") := by decide +kernel)
    (hg : Gl X "isinstance" := by rfl) (hgT : Gl X y := by rfl) (hn : y ≠ "__name__" := by decide) (hd : (y == ("__debug__" : Str)) = false := by decide)
    (he : starEach [e, .Name y p2] X.env = (false, eval e X.env) :: starEach [.Name y p2] X.env := by rfl) (hs2 : starEach [.Name y p2] X.env = (false, eval (.Name y p2) X.env) :: starEach [] X.env := by rfl) (hpl : (backTo pos (starEach [.Name y p2] X.env)).any (·.1) = false := by rfl) :
    PD X Z (.Call (.Name "isinstance" p) [e, .Name y p2] [] pos) (dIsi [T] t) := by
  obtain ⟨te, pe, s⟩ := ha
  refine ⟨_, pe_callB call_isi hg hm hv1 (pa_cons pe (pa_cons (pe_bltn (v := .ty T.nm) hgT hmT hv rfl hn hd) pa_nil hs2) he) (by decide) (by decide) he hpl, fun G0 H0 G H σ ρ Q' Q E gd hh k => ?_⟩
  refine s G0 H0 G H σ ρ _ _ E gd hh fun v w G1 H1 u1 r1 q1 => ?_
  unfold gIsi at q1
  split at q1
  · rename_i t0 e1
    have q2 : Q' (.d (.bool (isTy t0 T))) := by simpa using q1
    exact ⟨v, .ty T.nm, _, _, _, rfl, .ty _, tyX_of (E.to u1) r1 e1, kit_isTy t0 T, k _ (.d (.bool _)) G1 H1 u1 (.bl _) q2⟩
  · exact q1.elim
/-- isinstance(e, (T1, T2)) -/
theorem d_isi2 {p p1 p2 p3 : Pos} {y1 y2 : Str} {kk} (T1 T2 : Ty) (hm : X.mg "isinstance" = none) (hm1 : X.mg y1 = none) (hv1 : bootBuiltins y1 = some (.type T1.nm)) (hm2 : X.mg y2 = none) (hv2 : bootBuiltins y2 = some (.type T2.nm)) (ha : PD X Z e t) (hv : bootBuiltins "isinstance" = some (.builtin "isinstance") := by decide +kernel)
    (hg : Gl X "isinstance" := by rfl) (hg1 : Gl X y1 := by rfl) (hg2 : Gl X y2 := by rfl) (hn1 : y1 ≠ "__name__" := by decide) (hd1 : (y1 == ("__debug__" : Str)) = false := by decide) (hn2 : y2 ≠ "__name__" := by decide) (hd2 : (y2 == ("__debug__" : Str)) = false := by decide)
    (hs1 : starEach [.Name y1 p1, .Name y2 p2] X.env = (false, eval (.Name y1 p1) X.env) :: starEach [.Name y2 p2] X.env := by rfl) (hs2 : starEach [.Name y2 p2] X.env = (false, eval (.Name y2 p2) X.env) :: starEach [] X.env := by rfl)
    (he : starEach [e, .Tuple [.Name y1 p1, .Name y2 p2] kk p3] X.env = (false, eval e X.env) :: starEach [.Tuple [.Name y1 p1, .Name y2 p2] kk p3] X.env := by rfl)
    (he2 : starEach [.Tuple [.Name y1 p1, .Name y2 p2] kk p3] X.env = (false, eval (.Tuple [.Name y1 p1, .Name y2 p2] kk p3) X.env) :: starEach [] X.env := by rfl) (hpl : (backTo pos (starEach [.Tuple [.Name y1 p1, .Name y2 p2] kk p3] X.env)).any (·.1) = false := by rfl) :
    PD X Z (.Call (.Name "isinstance" p) [e, .Tuple [.Name y1 p1, .Name y2 p2] kk p3] [] pos) (dIsi [T1, T2] t) := by
  obtain ⟨te, pe, s⟩ := ha
  refine ⟨_, pe_callB call_isiT hg hm hv (pa_cons pe (pa_cons (pe_tup (pa_cons (pe_bltn (v := .ty T1.nm) hg1 hm1 hv1 rfl hn1 hd1) (pa_cons (pe_bltn (v := .ty T2.nm) hg2 hm2 hv2 rfl hn2 hd2) pa_nil hs2) hs1)) pa_nil he2) he) (by decide) (by decide) he hpl, fun G0 H0 G H σ ρ Q' Q E gd hh k => ?_⟩
  refine s G0 H0 G H σ ρ _ _ E gd hh fun v w G1 H1 u1 r1 q1 => ?_
  unfold gIsi at q1
  split at q1
  · rename_i t0 e1
    have E1 := E.to u1
    refine ⟨by show 2 ≤ sizeLine; rw [sizeLine_eq]; decide, fun p3 hp => ?_⟩
    have u2 := Up.newH (o := .tup [.ty T1.nm, .ty T2.nm]) E1.gh hp
    have r2 := r1.up u2
    refine ⟨v, p3, [.ty T1.nm, .ty T2.nm], _, _, ([T1, T2].any (isTy t0)), rfl, upd_same, .cons (.ty _) (.cons (.ty _) .nil), tyX_of (E1.to u2) r2 e1, ?_, k _ (.d (.bool _)) G1 _ (u1.trans u2) (.bl _) q1⟩
    refine kitAny_cons (kit_isTy t0 T1) (fun h1 => kitAny_cons (kit_isTy t0 T2) (fun h2 => ?_) fun h2 => ?_) fun h1 => ?_
    · simp [h1, h2, kitAny_nil]
    · simp [h2]
    · simp [h1]
  · exact q1.elim
end
end DL

/-! DL4: what is walked, comprehensions, statements, loops. -/
namespace DL
open PySem PySem.Spec PyProof.Rows L2

/-! ### what is walked -/
/-- an iterator that yields the items ds while the heap only grows over G and Hb -/
def ItOk (K : KW) (G Hb : Hp) (J : It) (ds : List PyData) : Prop := ∀ G' H', Ex G G' → Ex G' H' → Ex Hb H' → ∀ i : Nat,
  (∀ d, ds[i]? = some d → J.go i H' ∧ ∀ x H'', J.yld i H' x H'' → ∃ G'', Up G' H' G'' H'' ∧ Is K G'' x d) ∧ (ds.length = i → J.stop i H')
abbrev TId := En → (List PyData → Prop) → Prop
/-- lc: a comprehension's source (it may be an own list); else a loop's -/
def SndI (lc : Bool) (K : KW) (Z : Wish) (wi : TI) (t : TId) : Prop := ∀ (G0 H0 G H : Hp) (σ : L2.St) (ρ : En) (Q' : List PyData → Prop) (R : It → Hp → Prop), DEnv K G0 H0 G H σ ρ → Good K Z G0 H0 → t ρ Q' →
  (∀ J G' H' ds, Up G H G' H' → ItOk K G' (if lc then H' else H0) J ds → ds.length ≤ sizeLine → Q' ds → R J H') → wi σ H R
def PDI (lc : Bool) (X : Cx) (Z : Wish) (tg e : Expr) (t : TId) : Prop := ∃ wi, PI X tg e wi ∧ SndI lc (kw X) Z wi t
section
variable {X : Cx} {Z : Wish} {pos : Pos} {tg e : Expr} {t : TEd} {K : KW}
/-- a list, a tuple or a text, whichever it is -/
def iSeq (K : KW) (te : TE) : TI := fun σ H R => te σ H fun x H1 => (∃ a xs, x = .ref a ∧ SqL K H1 a xs ∧ R (Itl K a) H1) ∨ (∃ a xs, x = .ref a ∧ SqT K H1 a xs ∧ R (Itt K a) H1) ∨ ∃ z, x = .str z ∧ R (Its z) H1
theorem pi_seq {te : TE} (he : PE X e te) : PI X tg e (iSeq (kw X) te) := by
  refine ⟨fun pins s σ H R I h => ?_⟩
  refine thn (he.run pins s σ H _ I h) fun v s1 ⟨x, H1, I1, r1, q1⟩ => ?_
  rcases q1 with ⟨a, xs, rfl, hq, q⟩ | ⟨a, xs, rfl, hq, q⟩ | ⟨z, rfl, q⟩
  · cases r1
    obtain ⟨its, rv, p, hz⟩ := I1.list hq
    exact wpAny_pyIter_list p.isList (pi_one (tk := s1.toks) I1 _ (turn_list a _) ⟨_, Heap.get?_push_size _ rfl, rfl, rfl⟩ q)
  · cases r1
    obtain ⟨its, rv, p, hz⟩ := I1.tuple hq
    exact wpAny_pyIter_tuple (show s1.heap.IsTuple a its.toArray from p) (pi_one (tk := s1.toks) I1 _ (turn_tuple a _) ⟨_, Heap.get?_push_size _ rfl, rfl, rfl⟩ q)
  · obtain ⟨t, rfl⟩ := r1
    cases ha : z.cps.all (· < 128)
    · exact wpAny_pyIter_wide ha (pi_one (tk := s1.toks) I1 _ (turn_str _ z t "str_iterator" (.inr rfl)) ⟨_, Heap.get?_push_size _ rfl, rfl, rfl⟩ q)
    · exact wpAny_pyIter_ascii ha (pi_one (tk := s1.toks) I1 _ (turn_str _ z t "str_ascii_iterator" (.inl rfl)) ⟨_, Heap.get?_push_size _ rfl, rfl, rfl⟩ q)
theorem itOk_l {G Hb : Hp} {a : Addr} {vs : List V} {ds : List PyData} (h : ∀ H', Ex Hb H' → SqL K H' a vs) (al : IsAll K G vs ds) : ItOk K G Hb (Itl K a) ds := by
  intro G' H' e1 e2 e3 i
  have hs := h H' e3
  refine ⟨fun d hd => ?_, fun hi => ⟨vs, hs, by rw [al.len]; exact Nat.le_of_eq hi⟩⟩
  obtain ⟨v, hv, iv⟩ := al.get hd
  refine ⟨⟨vs, v, hs, hv⟩, fun x H'' y => ?_⟩
  obtain ⟨rfl, y⟩ := y
  have := y vs hs
  rw [hv] at this; cases this
  exact ⟨G', Up.refl e2, iv.up e1⟩
theorem itOk_t {G Hb : Hp} {a : Addr} {vs : List V} {ds : List PyData} (h : SqT K G a vs) (al : IsAll K G vs ds) : ItOk K G Hb (Itt K a) ds := by
  intro G' H' e1 e2 e3 i
  have hs := e2.sqT (e1.sqT h)
  refine ⟨fun d hd => ?_, fun hi => ⟨vs, hs, by rw [al.len]; exact Nat.le_of_eq hi⟩⟩
  obtain ⟨v, hv, iv⟩ := al.get hd
  refine ⟨⟨vs, v, hs, hv⟩, fun x H'' y => ?_⟩
  obtain ⟨rfl, y⟩ := y
  have := y vs hs
  rw [hv] at this; cases this
  exact ⟨G', Up.refl e2, iv.up e1⟩
/-- the signs of a text -/
def chsD (z : Str) : List PyData := z.cps.toList.map chS
theorem itOk_s {G Hb : Hp} {z : Str} (ok : okS z) : ItOk K G Hb (Its z) (chsD z) := by
  intro G' H' e1 e2 e3 i
  refine ⟨fun d hd => ?_, fun hi => ?_⟩
  · unfold chsD at hd
    rw [List.getElem?_map, Array.getElem?_toList] at hd
    cases hc : z.cps[i]? with
    | none => rw [hc] at hd; cases hd
    | some c =>
      rw [hc] at hd
      have hi := (Array.getElem?_eq_some_iff.mp hc).1
      refine ⟨hi, fun x H'' y => ?_⟩
      obtain ⟨rfl, c', hc', rfl⟩ := y
      rw [hc] at hc'; cases hc'
      have e : d = chS c := (Option.some.inj hd).symm
      subst e
      refine ⟨G', Up.refl e2, .str _ (okS_ch (strOk_mem ok.2 ?_))⟩
      rw [Array.mem_toList_iff]
      exact Array.mem_of_getElem? hc
  · show z.cps.size ≤ i
    unfold chsD at hi
    rw [List.length_map, Array.length_toList] at hi
    exact Nat.le_of_eq hi
/-- what is read item by item; in a loop not an own list -/
def gSeq (lc : Bool) (w : W) (Q : List PyData → Prop) : Prop := match w with
  | .d (.str z) => Q (chsD z)
  | .d (.tuple xs) => Q xs
  | .r xs => if lc = true then Q xs else False
  | w => match asL w with
    | some xs => Q xs
    | none => False
def dSeq (lc : Bool) (t : TEd) : TId := fun ρ Q => t ρ fun w => gSeq lc w Q
theorem seq_at {lc : Bool} {G0 H0 G H G1 H1 : Hp} {σ : L2.St} {ρ : En} {v : V} {w : W} {Q' : List PyData → Prop} {R : It → Hp → Prop} (E1 : DEnv K G0 H0 G1 H1 σ ρ) (u1 : Up G H G1 H1) (r1 : RR K H0 H G1 H1 v w) (q1 : gSeq lc w Q')
    (k : ∀ J G' H' ds, Up G H G' H' → ItOk K G' (if lc then H' else H0) J ds → ds.length ≤ sizeLine → Q' ds → R J H') :
    (∃ a xs, v = .ref a ∧ SqL K H1 a xs ∧ R (Itl K a) H1) ∨ (∃ a xs, v = .ref a ∧ SqT K H1 a xs ∧ R (Itt K a) H1) ∨ ∃ z, v = .str z ∧ R (Its z) H1 := by
  have lst : ∀ (xs : List PyData), (∃ p vs, v = .ref p ∧ SqL K H1 p vs ∧ (lc = true ∨ SqL K H0 p vs ∨ H p = none ∨ SqL K G1 p vs) ∧ xs.length ≤ sizeLine ∧ IsAll K G1 vs xs) → Q' xs →
      (∃ a ys, v = .ref a ∧ SqL K H1 a ys ∧ R (Itl K a) H1) := by
    rintro xs ⟨p, vs, rfl, h1, hw, z, a⟩ q
    refine ⟨p, vs, rfl, h1, ?_⟩
    have uf := frzAll_up u1
    refine k _ (frzAll H G1 H1) H1 xs uf ?_ z q
    have af := a.up (frzAll_ex (Hs := H) u1.gh)
    cases lc with
    | true => exact itOk_l (fun H' e => e.sqL h1) af
    | false =>
      rcases hw with hw | hw | hw | hw
      · cases hw
      · exact itOk_l (fun H' e => e.sqL hw) af
      · -- fresh: it is stable now
        intro G' H' e1 e2 e3
        have hg : SqL K (frzAll H G1 H1) p vs := by
          rcases h1 with (h1 | ⟨o, h1⟩) | h1
          · exact .inl (.inl (by rw [frzAll_new hw]; exact h1))
          · exact .inl (.inr ⟨o, by rw [frzAll_new hw]; exact h1⟩)
          · exact .inr h1
        exact itOk_l (Hb := frzAll H G1 H1) (fun H' e => e.sqL hg) af G' H' e1 e2 (e1.trans e2)
      · intro G' H' e1 e2 e3
        exact itOk_l (Hb := frzAll H G1 H1) (fun H' e => e.sqL ((frzAll_ex (Hs := H) u1.gh).sqL hw)) af G' H' e1 e2 (e1.trans e2)
  cases w with
  | d y =>
    cases y with
    | str z0 =>
      cases r1 with | str z ok =>
      refine .inr (.inr ⟨_, rfl, k _ G1 H1 _ u1 (itOk_s ok) ?_ q1⟩)
      unfold chsD
      rw [List.length_map, Array.length_toList]
      exact ok.1
    | tuple xs =>
      obtain ⟨p, vs, rfl, h1, z, a⟩ := Is.inT r1
      exact .inr (.inl ⟨p, vs, rfl, u1.gh.sqT h1, k _ G1 H1 _ u1 (itOk_t h1 a) z q1⟩)
    | list xs =>
      cases r1 with | lst hs z ha =>
      exact .inl (lst xs ⟨_, _, rfl, SqL.of (u1.gh _ _ hs), .inr (.inr (.inr (SqL.of hs))), z, ha⟩ q1)
    | _ => exact q1.elim
  | r xs =>
    have q2 : (if lc = true then Q' xs else False) := q1
    split at q2
    · rename_i hlc
      obtain ⟨p, vs, rfl, h1, z, a⟩ := RR.asL r1 E1 rfl
      exact .inl (lst xs ⟨p, vs, rfl, h1, .inl hlc, z, a⟩ q2)
    · exact q2.elim
  | l ys =>
    obtain ⟨p, vs, rfl, h1, h2, _, h3, z, h4⟩ := r1
    exact .inl (lst ys ⟨p, vs, rfl, SqL.of h3, .inr (.inr (.inl h1)), z, h4⟩ q1)
  | b ys =>
    obtain ⟨p, vs, rfl, h1, z, h4⟩ := r1
    exact .inl (lst ys ⟨p, vs, rfl, E1.up.h.sqL h1, .inr (.inl h1), z, h4⟩ q1)
  | drw => exact q1.elim
  | x y => exact q1.elim
theorem di_seq {lc : Bool} (h : PD X Z e t) : PDI lc X Z tg e (dSeq lc t) := by
  obtain ⟨te, p, s⟩ := h
  refine ⟨_, pi_seq p, fun G0 H0 G H σ ρ Q' R E gd hh k => ?_⟩
  exact s G0 H0 G H σ ρ _ _ E gd hh fun v w G1 H1 u1 r1 q1 => seq_at (E.to u1) u1 r1 q1 k
/-- the ints lo, lo + 1, .. (n of them) -/
def rngD (lo : Int) (n : Nat) : List PyData := (List.range n).map fun i => .int (lo + (i : Nat))
theorem rngD_get {lo : Int} {n i : Nat} (h : i < n) : (rngD lo n)[i]? = some (.int (lo + (i : Nat))) := by
  unfold rngD
  rw [List.getElem?_map, List.getElem?_range h]; rfl
theorem rngD_len (lo : Int) (n : Nat) : (rngD lo n).length = n := by unfold rngD; rw [List.length_map, List.length_range]
theorem itOk_r {G Hb : Hp} {lo : Int} {n : Nat} : ItOk K G Hb (Itr lo n) (rngD lo n) := by
  intro G' H' e1 e2 e3 i
  refine ⟨fun d hd => ?_, fun hi => by rw [rngD_len] at hi; exact Nat.le_of_eq hi⟩
  have hi : i < n := by
    have := (List.getElem?_eq_some_iff.mp hd).1
    rw [rngD_len] at this; exact this
  rw [rngD_get hi] at hd; cases hd
  refine ⟨hi, fun x H'' y => ?_⟩
  obtain ⟨rfl, rfl⟩ := y
  exact ⟨G', Up.refl e2, .int _⟩
def dRng1 (t : TAd) : TId := fun ρ Q => t ρ fun ws => match ws with
  | [.d (.int n)] => -(2 ^ 62) ≤ n ∧ n ≤ 16777216 ∧ Q (rngD 0 n.toNat)
  | _ => False
def dRng2 (t : TAd) : TId := fun ρ Q => t ρ fun ws => match ws with
  | [.d (.int m), .d (.int n)] => -(2 ^ 61) ≤ m ∧ m ≤ 2 ^ 61 ∧ -(2 ^ 61) ≤ n ∧ n ≤ 2 ^ 61 ∧ n - m ≤ 16777216 ∧ Q (rngD m (n - m).toNat)
  | _ => False
theorem di_rng1 {lc : Bool} {a : Expr} {t : TAd} {p : Pos} (hm : X.mg "range" = none) (ha : PDA X Z [a] t) (hg : Gl X "range" := by rfl) (hs : starEach [a] X.env = [(false, eval a X.env)] := by rfl) : PDI lc X Z tg (.Call (.Name "range" p) [a] [] pos) (dRng1 t) := by
  obtain ⟨te, pa, s⟩ := ha
  refine ⟨_, pi_range1 hg hm pa hs, fun G0 H0 G H σ ρ Q' R E gd hh k => ?_⟩
  refine s G0 H0 G H σ ρ _ _ E gd hh fun vs ws G1 H1 u1 r1 q1 => ?_
  split at q1
  · rename_i n
    obtain ⟨v, rfl, r⟩ := r1.one
    have r' : Is (kw X) G1 v (.int n) := r
    cases r'
    obtain ⟨z1, z2, q⟩ := q1
    refine ⟨n, rfl, z1, by omega, k _ G1 H1 _ u1 itOk_r ?_ q⟩
    rw [rngD_len, sizeLine_eq]; omega
  · exact q1.elim
theorem di_rng2 {lc : Bool} {a b : Expr} {t : TAd} {p : Pos} (hm : X.mg "range" = none) (ha : PDA X Z [a, b] t) (hg : Gl X "range" := by rfl) (hs : starEach [a, b] X.env = [(false, eval a X.env), (false, eval b X.env)] := by rfl) (hs2 : starEach [b] X.env = [(false, eval b X.env)] := by rfl) :
    PDI lc X Z tg (.Call (.Name "range" p) [a, b] [] pos) (dRng2 t) := by
  obtain ⟨te, pa, s⟩ := ha
  refine ⟨_, pi_range2 hg hm pa hs hs2, fun G0 H0 G H σ ρ Q' R E gd hh k => ?_⟩
  refine s G0 H0 G H σ ρ _ _ E gd hh fun vs ws G1 H1 u1 r1 q1 => ?_
  split at q1
  · rename_i m n
    obtain ⟨v1, v2, rfl, ra, rb⟩ := r1.two
    have ra' : Is (kw X) G1 v1 (.int m) := ra
    have rb' : Is (kw X) G1 v2 (.int n) := rb
    cases ra'; cases rb'
    obtain ⟨z1, z2, z3, z4, z5, q⟩ := q1
    refine ⟨m, n, rfl, ⟨by omega, by omega, by omega, by omega⟩, k _ G1 H1 _ u1 itOk_r ?_ q⟩
    rw [rngD_len, sizeLine_eq]; omega
  · exact q1.elim
end

/-! ### targets -/
/-- a target takes a value: names, tuples of names -/
abbrev TGd := PyData → En → (En → Prop) → Prop
/-- us: the slots that it sets -/
def SndG (K : KW) (us : List Nat) (g : TG) (t : TGd) : Prop := ∀ (G0 H0 G H : Hp) (σ : L2.St) (ρ : En) (d : PyData) (v : V) (Q' : En → Prop) (Q : L2.St → Hp → Prop), DEnv K G0 H0 G H σ ρ → Is K G v d → t d ρ Q' →
  (∀ σ' ρ', DEnv K G0 H0 G H σ' ρ' → σ'.length = σ.length → (∀ i, i ∉ us → σ'[i]? = σ[i]?) → Q' ρ' → Q σ' H) → g v σ H Q
def PDG (X : Cx) (us : List Nat) (e : Expr) (t : TGd) : Prop := ∃ g, PG X e g ∧ SndG (kw X) us g t
abbrev TGsd := List PyData → En → (En → Prop) → Prop
def SndGs (K : KW) (us : List Nat) (g : TGs) (t : TGsd) : Prop := ∀ (G0 H0 G H : Hp) (σ : L2.St) (ρ : En) (ds : List PyData) (vs : List V) (Q' : En → Prop) (Q : L2.St → Hp → Prop), DEnv K G0 H0 G H σ ρ → IsAll K G vs ds → t ds ρ Q' →
  (∀ σ' ρ', DEnv K G0 H0 G H σ' ρ' → σ'.length = σ.length → (∀ i, i ∉ us → σ'[i]? = σ[i]?) → Q' ρ' → Q σ' H) → g vs σ H Q
def PDGs (X : Cx) (us : List Nat) (es : List Expr) (t : TGsd) : Prop := ∃ g, PGs X es g ∧ SndGs (kw X) us g t
def nG (i : Nat) : TGd := fun d ρ Q => Q (ρ.set i (some (.d d)))
def nGnil : TGsd := fun ds ρ Q => ds = [] ∧ Q ρ
def nGcons (t : TGd) (u : TGsd) : TGsd := fun ds ρ Q => match ds with
  | d :: r => t d ρ fun ρ' => u r ρ' Q
  | [] => False
def nGtup (n : Nat) (u : TGsd) : TGd := fun d ρ Q => match d with
  | .tuple xs => xs.length = n ∧ u xs ρ Q
  | _ => False
section
variable {X : Cx} {Z : Wish} {pos : Pos} {K : KW}
theorem DEnv.setA {G0 H0 G H Gz Hz : Hp} {σ : L2.St} {ρ : En} {v : V} {w : W} (E : DEnv K G0 H0 G H σ ρ) (Ez : DEnv K G0 H0 Gz Hz σ ρ) (u : Up Gz Hz G H) (i : Nat) (h : RR K H0 Hz G H v w) (hb : okW w) : DEnv K G0 H0 G H (σ.set i (some v)) (ρ.set i (some w)) := by
  by_cases hi : i < σ.length
  · exact E.set Ez u i hi h hb
  · rw [List.set_eq_of_length_le (by omega), List.set_eq_of_length_le (by rw [E.len]; omega)]
    exact E
theorem DEnv.setD {G0 H0 G H : Hp} {σ : L2.St} {ρ : En} {v : V} {d : PyData} (E : DEnv K G0 H0 G H σ ρ) (i : Nat) (h : Is K G v d) : DEnv K G0 H0 G H (σ.set i (some v)) (ρ.set i (some (.d d))) :=
  E.setA E (Up.refl E.gh) i (w := .d d) h ⟨(fun xs z => nomatch z), (fun xs z => nomatch z), fun xs z => nomatch z⟩
theorem snd_nG {i : Nat} : SndG K [i] (gName i) (nG i) := by
  intro G0 H0 G H σ ρ d v Q' Q E r h k
  exact k _ _ (E.setD i r) (List.length_set ..) (fun j hj => List.getElem?_set_ne (fun e => hj (by simp [e]))) h
theorem dg_name {i : Nat} {x : Str} (hN : X.N.Nodup) (hi : X.N[i]? = some x := by rfl) (hx : Loc X.env.scope x := by first | exact Or.inl rfl | exact Or.inr rfl) (hf : X.fn x = true ∨ X.env.scope.names.lookup x = some .local := by first | exact .inl rfl | exact .inr rfl | assumption) : PDG X [i] (.Name x pos) (nG i) :=
  ⟨_, pg_name hN hi hx hf, snd_nG⟩
theorem dgs_nil : PDGs X [] [] nGnil := by
  refine ⟨_, pgs_nil, fun G0 H0 G H σ ρ ds vs Q' Q E r h k => ?_⟩
  obtain ⟨rfl, h⟩ := h
  cases r
  exact ⟨rfl, k _ _ E rfl (fun _ _ => rfl) h⟩
theorem dgs_cons {e : Expr} {es : List Expr} {t : TGd} {u : TGsd} {us1 us2 : List Nat} (h1 : PDG X us1 e t) (h2 : PDGs X us2 es u) (hs : (assignEach (e :: es) X.env).map (·.2) = assign e X.env :: (assignEach es X.env).map (·.2) := by rfl) : PDGs X (us1 ++ us2) (e :: es) (nGcons t u) := by
  obtain ⟨g, pg, sg⟩ := h1
  obtain ⟨gs, pgs, sgs⟩ := h2
  refine ⟨_, pgs_cons pg pgs hs, fun G0 H0 G H σ ρ ds vs Q' Q E r h k => ?_⟩
  cases ds with
  | nil => exact h.elim
  | cons d ds =>
    cases r with | cons r1 r2 =>
    refine ⟨_, _, rfl, sg G0 H0 G H σ ρ d _ _ _ E r1 h fun σ' ρ' E' l1 s1 h' => ?_⟩
    refine sgs G0 H0 G H σ' ρ' ds _ Q' Q E' r2 h' fun σ2 ρ2 E2 l2 s2 q => k σ2 ρ2 E2 (l2.trans l1) (fun i hi => ?_) q
    rw [List.mem_append, not_or] at hi
    rw [s2 i hi.2, s1 i hi.1]
theorem dg_tup {es : List Expr} {kk : Nat} {u : TGsd} {n : Nat} {us : List Nat} (hc : X.calm = true) (h : PDGs X us es u) (hn : (assignEach es X.env).length = n := by rfl) (hst : (assignEach es X.env).findIdx? (·.1) = none := by rfl) : PDG X us (.Tuple es kk pos) (nGtup n u) := by
  obtain ⟨gs, pgs, sgs⟩ := h
  refine ⟨_, pg_tup hc pgs hn hst, fun G0 H0 G H σ ρ d v Q' Q E r h k => ?_⟩
  unfold nGtup at h
  split at h
  · obtain ⟨hl, h⟩ := h
    obtain ⟨p, vs, rfl, h1, z, a⟩ := Is.inT r
    exact ⟨p, vs, rfl, E.gh.sqT h1, by rw [a.len]; exact hl, sgs G0 H0 G H σ ρ _ vs Q' Q E a h k⟩
  · exact h.elim
end

/-! ### comprehensions -/
def wipeD (ρ : En) : List Nat → En
  | [] => ρ
  | v :: vs => (wipeD ρ vs).set v none
theorem wipeD_len (ρ : En) : ∀ vs : List Nat, (wipeD ρ vs).length = ρ.length
  | [] => rfl
  | v :: vs => by unfold wipeD; rw [List.length_set, wipeD_len ρ vs]
theorem wipeD_some {ρ : En} {i : Nat} {w : W} : ∀ {vs : List Nat}, (wipeD ρ vs)[i]? = some (some w) → ρ[i]? = some (some w) ∧ i ∉ vs
  | [], h => ⟨h, by simp⟩
  | v :: vs, h => by
    unfold wipeD at h
    by_cases hi : v = i
    · subst hi
      by_cases hv : v < (wipeD ρ vs).length
      · rw [List.getElem?_set_self hv] at h; cases h
      · rw [List.getElem?_eq_none (by simpa using hv)] at h; cases h
    · rw [List.getElem?_set_ne hi] at h
      obtain ⟨h1, h2⟩ := wipeD_some h
      exact ⟨h1, by simp only [List.mem_cons, not_or]; exact ⟨fun e => hi e.symm, h2⟩⟩
theorem wipe_keep {σ : L2.St} {i : Nat} : ∀ {vs : List Nat}, i ∉ vs → (wipe σ vs)[i]? = σ[i]?
  | [], _ => rfl
  | v :: vs, h => by
    simp only [List.mem_cons, not_or] at h
    unfold wipe
    rw [List.getElem?_set_ne (fun e => h.1 e.symm), wipe_keep h.2]
theorem wipe_same {σ τ : L2.St} (h : σ.length = τ.length) : ∀ {vs : List Nat}, (∀ i, i ∉ vs → σ[i]? = τ[i]?) → wipe σ vs = wipe τ vs := by
  intro vs hh
  apply List.ext_getElem?
  intro i
  have key : ∀ (us : List Nat) (α : L2.St), i ∈ us → i < α.length → (wipe α us)[i]? = some none := by
    intro us α
    induction us with
    | nil => intro z; cases z
    | cons u us ih =>
      intro hi hl
      unfold wipe
      by_cases e : u = i
      · subst e
        rw [List.getElem?_set_self (by rw [wipe_length]; exact hl)]
      · rw [List.getElem?_set_ne e]
        exact ih (by rcases List.mem_cons.mp hi with z | z; exact absurd z.symm e; exact z) hl
  by_cases hi : i ∈ vs
  · by_cases hl : i < σ.length
    · rw [key vs σ hi hl, key vs τ hi (by rw [← h]; exact hl)]
    · rw [List.getElem?_eq_none (by rw [wipe_length]; omega), List.getElem?_eq_none (by rw [wipe_length]; omega)]
  · rw [wipe_keep hi, wipe_keep hi]; exact hh i hi
theorem DEnv.wipe {K : KW} {G0 H0 G H : Hp} {σ : L2.St} {ρ : En} (E : DEnv K G0 H0 G H σ ρ) (vs : List Nat) : DEnv K G0 H0 G H (L2.wipe σ vs) (wipeD ρ vs) :=
  E.forget (by rw [wipeD_len, wipe_length, E.len]) fun i w h => by
    obtain ⟨h1, h2⟩ := wipeD_some h
    exact ⟨h1, wipe_keep h2⟩
/-- several tests of a clause -/
def PDTs (X : Cx) (Z : Wish) (es : List Expr) (t : TTd) : Prop := ∃ te, PTs X es te ∧ SndT (kw X) Z te t
def bYes : TTd := fun _ Q => Q true
section
variable {X : Cx} {Z : Wish} {pos : Pos} {K : KW}
theorem dts_nil : PDTs X Z [] bYes := ⟨_, pts_nil, fun G0 H0 G H σ ρ Q' Q E gd h k => k true G H (Up.refl E.gh) h⟩
theorem dts_one {c : Expr} {t : TTd} (h : PDT X Z c t) : PDTs X Z [c] t := by
  obtain ⟨te, p, s⟩ := h
  exact ⟨_, pts_one p, s⟩
/-- [elt for target in src if ..]: I by the turn and the list so far -/
def dLc (src : TId) (g : TGd) (c : TTd) (elt : TEd) (vs : List Nat) : TEd := fun ρ Q => src ρ fun ds => ∃ I : Nat → List PyData → Prop, I 0 [] ∧
  (∀ i x acc, ds[i]? = some x → I i acc → g x (wipeD ρ vs) fun ρ' => c ρ' fun b => if b = true then elt ρ' fun w => onFw w fun y => I (i + 1) (acc ++ [y]) else I (i + 1) acc) ∧
  ∀ acc, I ds.length acc → Q (.l acc)
/-- the wish inside a comprehension: nothing is raised -/
def Z0 : Wish := ⟨fun _ _ _ => False, fun _ _ => False⟩
theorem good0 {G0 H0 : Hp} : Good K Z0 G0 H0 := fun _ _ _ _ _ _ _ h => h.elim
theorem Up.mutH {G1 H1 G H : Hp} {D : Addr} {o : HO} (u : Up G1 H1 G H) (hg : G D = none) (h1 : H1 D = none) : Up G1 H1 G (upd H D o) := ⟨u.g, u.h.mut h1, u.gh.mut hg, u.sep⟩
/-- the reading that a data reading is worth -/
def cE (K : KW) (Z : Wish) (t : TEd) : TE := fun σ H Q => ∃ G0 H0 G ρ Q', DEnv K G0 H0 G H σ ρ ∧ Good K Z G0 H0 ∧ t ρ Q' ∧ ∀ v w G' H', Up G H G' H' → RR K H0 H G' H' v w → Q' w → Q v H'
def cT (K : KW) (Z : Wish) (t : TTd) : TT := fun σ H Q => ∃ G0 H0 G ρ Q', DEnv K G0 H0 G H σ ρ ∧ Good K Z G0 H0 ∧ t ρ Q' ∧ ∀ b G' H', Up G H G' H' → Q' b → Q b H'
def cG (K : KW) (us : List Nat) (t : TGd) : TG := fun v σ H Q => ∃ G0 H0 G ρ d Q', DEnv K G0 H0 G H σ ρ ∧ Is K G v d ∧ t d ρ Q' ∧ ∀ σ' ρ', DEnv K G0 H0 G H σ' ρ' → σ'.length = σ.length → (∀ i, i ∉ us → σ'[i]? = σ[i]?) → Q' ρ' → Q σ' H
theorem PD.pe {e : Expr} {t : TEd} (h : PD X Z e t) : PE X e (cE (kw X) Z t) := by
  obtain ⟨te, p, s⟩ := h
  exact ⟨fun pins s0 σ H Q I ⟨G0, H0, G, ρ, Q', E, gd, hh, k⟩ => p.run pins s0 σ H Q I (s G0 H0 G H σ ρ Q' Q E gd hh k)⟩
theorem PDTs.pts {es : List Expr} {t : TTd} (h : PDTs X Z es t) : PTs X es (cT (kw X) Z t) := by
  obtain ⟨te, p, s⟩ := h
  exact ⟨fun pins s0 σ H Q I ⟨G0, H0, G, ρ, Q', E, gd, hh, k⟩ => p.run pins s0 σ H Q I (s G0 H0 G H σ ρ Q' Q E gd hh k)⟩
theorem PDG.pg {us : List Nat} {e : Expr} {t : TGd} (h : PDG X us e t) : PG X e (cG (kw X) us t) := by
  obtain ⟨g, p, s⟩ := h
  exact ⟨fun pins s0 σ H v u Q I r ⟨G0, H0, G, ρ, d, Q', E, i, hh, k⟩ => p.run pins s0 σ H v u Q I r (s G0 H0 G H σ ρ d v Q' Q E i hh k)⟩
theorem snd_lc {wi : TI} {vs : List Nat} {src : TId} {g : TGd} {c : TTd} {elt : TEd} (hi : SndI true K Z wi src) : Snd K Z (tLc wi (cG K vs g) (cT K Z0 c) (cE K Z0 elt) vs) (dLc src g c elt vs) := by
  intro G0 H0 G H σ ρ Q' Q E gd hh k
  refine hi G0 H0 G H σ ρ _ _ E gd hh fun J G1 H1 ds u1 itok zl q D hD => ?_
  obtain ⟨I, i0, istep, iend⟩ := q
  have itok' : ItOk K G1 H1 J ds := itok
  refine ⟨fun i m H2 => m = ds.length - i ∧ i ≤ ds.length ∧ ∃ G2 acc ws, Up G1 H1 G2 H2 ∧ G2 D = none ∧ H2 D = some (.lst ws) ∧ IsAll K G2 ws acc ∧ acc.length ≤ i ∧ I i acc,
    ⟨ds.length, by simp, Nat.zero_le _, G1, [], [], Up.newH u1.gh hD, u1.gh.back hD, upd_same, .nil, Nat.le_refl _, i0⟩, ?_⟩
  rintro i m H2 ⟨rfl, hi2, G2, acc, ws, u2, gD, hw, al, la, hI⟩
  obtain ⟨t1, t2⟩ := itok' G2 H2 u2.g u2.gh u2.h i
  by_cases hlt : i < ds.length
  · obtain ⟨hgo, hy⟩ := t1 ds[i] (List.getElem?_eq_getElem hlt)
    refine .inr ⟨hgo, fun H' => ∃ m', m' < ds.length - i ∧ (m' = ds.length - (i + 1) ∧ i + 1 ≤ ds.length ∧ ∃ G2 acc ws, Up G1 H1 G2 H' ∧ G2 D = none ∧ H' D = some (.lst ws) ∧ IsAll K G2 ws acc ∧ acc.length ≤ i + 1 ∧ I (i + 1) acc), fun H' h => h, fun x H3 y => ?_⟩
    obtain ⟨G3, u3, ix⟩ := hy x H3 y
    have u13 := u2.trans u3
    have E3 := (E.to (u1.trans u13)).wipe vs
    refine ⟨G0, H0, G3, wipeD ρ vs, ds[i], _, E3, ix, istep i _ acc (List.getElem?_eq_getElem hlt) hI, fun σ' ρ' E' l' s' h' => ⟨?_, G0, H0, G3, ρ', _, E', good0, h', fun b G4 H4 u4 q4 => ?_⟩⟩
    · have e1 : wipe σ' vs = wipe (wipe σ vs) vs := wipe_same l' s'
      rw [e1]
      exact wipe_same (wipe_length σ vs) fun i hi => wipe_keep hi
    · have u14 := u13.trans u4
      have hD4 : H4 D = some (.lst ws) := u4.h _ _ (u3.h _ _ hw)
      have gD4 : G4 D = none := u4.sep D (by rw [u3.h _ _ hw]; exact fun z => nomatch z) (u3.sep D (by rw [hw]; exact fun z => nomatch z) gD)
      cases b with
      | true =>
        replace q4 := (show (if true = true then _ else _) from q4)
        rw [if_pos rfl] at q4
        refine iteT ?_
        refine ⟨G0, H0, G4, ρ', _, E'.to u4, good0, q4, fun v w G5 H5 u5 r5 q5 => ?_⟩
        obtain ⟨y', e1, hI'⟩ := onFw_of q5
        have hD5 : H5 D = some (.lst ws) := u5.h _ _ hD4
        have gD5 : (frzAll H4 G5 H5) D = none := by
          unfold frzAll
          rw [if_neg (by rw [hD4]; exact fun z => nomatch z)]
          exact u5.sep D (by rw [hD4]; exact fun z => nomatch z) gD4
        have u6 := u14.trans (frzAll_up u5)
        have iv := r5.frz u5.gh e1
        refine ⟨ws, hD5, by rw [al.len]; omega, ds.length - (i + 1), by omega, rfl, hlt, frzAll H4 G5 H5, acc ++ [y'], ws ++ [v], u6.mutH gD5 hD, gD5, upd_same, ?_, by rw [List.length_append]; simp; omega, hI'⟩
        exact (al.up ((u3.g.trans u4.g).trans (frzAll_up u5).g)).append (.one iv)
      | false =>
        have e0 : ¬ (false = true) := Bool.false_ne_true
        replace q4 := (show (if false = true then _ else _) from q4)
        rw [if_neg e0] at q4
        refine iteF ?_
        exact ⟨ds.length - (i + 1), by omega, rfl, hlt, G4, acc, ws, u14, gD4, hD4, al.up (u3.g.trans u4.g), by omega, q4⟩
  · have e : i = ds.length := by omega
    subst e
    exact .inl ⟨t2 rfl, k (.ref D) (.l acc) G2 H2 (u1.trans u2) ⟨D, ws, rfl, u1.h.back hD, gD, trivial, hw, by omega, al⟩ (iend acc hI)⟩
/-- [elt for target in src if ..] as a value; own: the comprehension's names with their slots -/
theorem d_lc {elt tg iter : Expr} {ifs : List Expr} {scope : Scope} {own : List (Str × Nat)} {src : TId} {g : TGd} {c : TTd} {t : TEd} (hc : X.calm = true) (hN : X.N.Nodup) (hi : PDI true X Z tg iter src) (ok : BlkOk X.N X.env.scope scope own)
    (hg : ∀ (s : Shared) (H : Hp) (C : Addr) (cl : List (Str × Addr)) (fp : List Addr), PDG (X.blk s H scope (compEnvC scope cl C X.env) fp) (own.map (·.2)) tg g) (ht : ∀ (s : Shared) (H : Hp) (C : Addr) (cl : List (Str × Addr)) (fp : List Addr), PDTs (X.blk s H scope (compEnvC scope cl C X.env) fp) Z0 ifs c)
    (he : ∀ (s : Shared) (H : Hp) (C : Addr) (cl : List (Str × Addr)) (fp : List Addr), PD (X.blk s H scope (compEnvC scope cl C X.env) fp) Z0 elt t) (hs : ∀ x, foldedSetIterable iter X.env x = pure x := by intro _; rfl) :
    PD X Z (.ListComp elt [⟨tg, iter, ifs, 0⟩] scope pos) (dLc src g c t (own.map (·.2))) := by
  obtain ⟨wi, p, s⟩ := hi
  exact ⟨_, pe_lc hc hN p ok (fun s H C cl fp => (hg s H C cl fp).pg) (fun s H C cl fp => (ht s H C cl fp).pts) (fun s H C cl fp => (he s H C cl fp).pe) hs, snd_lc s⟩
end

/-! ### statements -/
structure Dn where
  nx : En → Prop
  rt : W → Prop
  bk : En → Prop := fun _ => False
  ct : En → Prop := fun _ => False
abbrev TSd := Dn → En → Prop
def SndS (K : KW) (Z : Wish) (ts : TS) (t : TSd) : Prop := ∀ (G0 H0 G H : Hp) (σ : L2.St) (ρ : En) (D' : Dn) (D : Ends), DEnv K G0 H0 G H σ ρ → Good K Z G0 H0 → t D' ρ →
  (∀ σ' G' H' ρ', DEnv K G0 H0 G' H' σ' ρ' → D'.nx ρ' → D.nx σ' H') → (∀ v w G' H', Up G0 H0 G' H' → RR K H0 H0 G' H' v w → D'.rt w → D.rt v H') →
  (∀ σ' G' H' ρ', DEnv K G0 H0 G' H' σ' ρ' → D'.bk ρ' → D.bk σ' H') → (∀ σ' G' H' ρ', DEnv K G0 H0 G' H' σ' ρ' → D'.ct ρ' → D.ct σ' H') → ts D σ H
def PDS (X : Cx) (Z : Wish) (st : Stmt) (t : TSd) : Prop := ∃ ts, PS X st ts ∧ SndS (kw X) Z ts t
def PDSs (X : Cx) (Z : Wish) (st : List Stmt) (t : TSd) : Prop := ∃ ts, PSs X st ts ∧ SndS (kw X) Z ts t
def sNext : TSd := fun D ρ => D.nx ρ
def sSeq (t u : TSd) : TSd := fun D ρ => t { D with nx := u D } ρ
def sBrk : TSd := fun D ρ => D.bk ρ
def sCont : TSd := fun D ρ => D.ct ρ
def sRet (t : TEd) : TSd := fun D ρ => t ρ D.rt
def sIf (c : TTd) (t u : TSd) : TSd := fun D ρ => c ρ fun b => if b = true then t D ρ else u D ρ
def noR (w : W) (p : Prop) : Prop := match w with
  | .r _ => False
  | .x (.rm _) => False
  | .x (.rml _) => False
  | _ => p
theorem noR_of {w : W} {p : Prop} (h : noR w p) : okW w ∧ p := by
  cases w with
  | r xs => exact h.elim
  | x y =>
    cases y with
    | rm _ => exact h.elim
    | rml _ => exact h.elim
    | _ => exact ⟨⟨(fun xs z => nomatch z), (fun xs z => nomatch z), fun xs z => nomatch z⟩, h⟩
  | _ => exact ⟨⟨(fun xs z => nomatch z), (fun xs z => nomatch z), fun xs z => nomatch z⟩, h⟩
def sSet (i : Nat) (t : TEd) : TSd := fun D ρ => t ρ fun w => noR w (D.nx (ρ.set i (some w)))
section
variable {X : Cx} {Z : Wish} {pos : Pos} {K : KW} {st : Stmt} {rest : List Stmt} {t u : TSd} {e : Expr} {te : TEd}
theorem dss_nil : PDSs X Z [] sNext := ⟨_, pss_nil, fun G0 H0 G H σ ρ D' D E gd h n r b c => n σ G H ρ E h⟩
theorem dss_cons (h1 : PDS X Z st t) (h2 : PDSs X Z rest u) : PDSs X Z (st :: rest) (sSeq t u) := by
  obtain ⟨t1, p1, s1⟩ := h1
  obtain ⟨t2, p2, s2⟩ := h2
  refine ⟨_, pss_cons p1 p2, fun G0 H0 G H σ ρ D' D E gd h n r b c => ?_⟩
  exact s1 G0 H0 G H σ ρ { D' with nx := u D' } { D with nx := t2 D } E gd h (fun σ' G' H' ρ' E' q => s2 G0 H0 G' H' σ' ρ' D' D E' gd q n r b c) r b c
theorem dss_one (h1 : PDS X Z st t) : PDSs X Z [st] t := by
  obtain ⟨t1, p1, s1⟩ := h1
  exact ⟨_, pss_one p1, s1⟩
/-- a word between two statements: what follows is shown once, from M -/
def sCut (t u : TSd) : TSd := fun D ρ => ∃ M : En → Prop, t { D with nx := M } ρ ∧ ∀ ρ', M ρ' → u D ρ'
theorem dss_cut (h1 : PDS X Z st t) (h2 : PDSs X Z rest u) : PDSs X Z (st :: rest) (sCut t u) := by
  obtain ⟨t1, p1, s1⟩ := h1
  obtain ⟨t2, p2, s2⟩ := h2
  refine ⟨_, pss_cons p1 p2, fun G0 H0 G H σ ρ D' D E gd h n r b c => ?_⟩
  obtain ⟨M, h1, h2⟩ := h
  exact s1 G0 H0 G H σ ρ { D' with nx := M } { D with nx := t2 D } E gd h1 (fun σ' G' H' ρ' E' q => s2 G0 H0 G' H' σ' ρ' D' D E' gd (h2 ρ' q) n r b c) r b c
theorem ds_pass : PDS X Z (.Pass pos) sNext := ⟨_, ps_pass, fun G0 H0 G H σ ρ D' D E gd h n r b c => n σ G H ρ E h⟩
theorem ds_break : PDS X Z (.Break pos) sBrk := ⟨_, ps_break, fun G0 H0 G H σ ρ D' D E gd h n r b c => b σ G H ρ E h⟩
theorem ds_continue : PDS X Z (.Continue pos) sCont := ⟨_, ps_continue, fun G0 H0 G H σ ρ D' D E gd h n r b c => c σ G H ρ E h⟩
theorem ds_ret (h : PD X Z e te) : PDS X Z (.Return (some e) pos) (sRet te) := by
  obtain ⟨t1, p1, s1⟩ := h
  refine ⟨_, ps_ret p1, fun G0 H0 G H σ ρ D' D E gd h n r b c => ?_⟩
  exact s1 G0 H0 G H σ ρ _ _ E gd h fun v w G' H' u1 r1 q1 => r v w G' H' (E.up.trans u1) (r1.at E.up.h) q1
/-- return of a name: an own list is handed out -/
def sRetv (i : Nat) : TSd := fun D ρ => match gx ρ i with
  | some w => D.rt w
  | none => False
theorem ds_retv (i : Nat) {x : Str} {pos' : Pos} (hN : X.N[i]? = some x := by rfl) (hv : Vis X.env.scope x := by first | exact Or.inl rfl | exact Or.inr (Or.inl rfl) | exact Or.inr (Or.inr rfl)) (hd : (x == ("__debug__" : Str)) = false := by decide)
    (hcd : (x == ("__classdict__" : Str)) = false := by decide) : PDS X Z (.Return (some (.Name x pos')) pos) (sRetv i) := by
  refine ⟨_, ps_ret (pe_var hN hv hd hcd), fun G0 H0 G H σ ρ D' D E gd h n r b c => ?_⟩
  unfold sRetv at h
  cases e : gx ρ i with
  | none => rw [e] at h; exact h.elim
  | some w =>
    rw [e] at h
    obtain ⟨v, a, sr⟩ := E.slot i w (gx_some e)
    exact ⟨v, a, r v w G H E.up sr.1 h⟩
theorem ds_retN : PDS X Z (.Return none pos) (fun D ρ => D.rt (.d .none)) := ⟨_, ps_retN, fun G0 H0 G H σ ρ D' D E gd h n r b c => r .non (.d .none) G H E.up .non h⟩
theorem ds_if {ce : Expr} {a b : List Stmt} {c : TTd} (hc : PDT X Z ce c) (ha : PDSs X Z a t) (hb : PDSs X Z b u) : PDS X Z (.If ce a b pos) (sIf c t u) := by
  obtain ⟨uc, pc, sc⟩ := hc
  obtain ⟨ua, pa, sa⟩ := ha
  obtain ⟨ub, pb, sb⟩ := hb
  refine ⟨_, ps_if pc pa pb, fun G0 H0 G H σ ρ D' D E gd h n r b c => ?_⟩
  refine sc G0 H0 G H σ ρ _ _ E gd h fun d G1 H1 u1 q1 => ?_
  cases d with
  | true => exact sa G0 H0 G1 H1 σ ρ D' D (E.to u1) gd q1 n r b c
  | false => exact sb G0 H0 G1 H1 σ ρ D' D (E.to u1) gd q1 n r b c
theorem snd_set {i : Nat} {ue : TE} (s1 : Snd K Z ue te) : SndS K Z (tAsg ue (gName i)) (sSet i te) := by
  intro G0 H0 G H σ ρ D' D E gd h n r b c
  refine s1 G0 H0 G H σ ρ _ _ E gd h fun v w G1 H1 u1 r1 q1 => ?_
  obtain ⟨hw, q⟩ := noR_of q1
  exact n _ G1 H1 _ ((E.to u1).setA E u1 i r1 hw) q
theorem ds_set {i : Nat} {x : Str} {pos' : Pos} (hN : X.N.Nodup) (he : PD X Z e te) (hi : X.N[i]? = some x := by rfl) (hx : Loc X.env.scope x := by first | exact Or.inl rfl | exact Or.inr rfl) (hs : swapsWith e (some (.Name x pos')) pos.line X.env = pure false := by rfl) (hf : X.fn x = true ∨ X.env.scope.names.lookup x = some .local := by first | exact .inl rfl | exact .inr rfl | assumption) :
    PDS X Z (.Assign [.Name x pos'] e pos) (sSet i te) := by
  obtain ⟨t1, p1, s1⟩ := he
  exact ⟨_, ps_set hN hi hx p1 hs hf, snd_set s1⟩
theorem ds_setLc {i : Nat} {y : Str} {py : Pos} {elt tg iter : Expr} {ifs : List Expr} {scope : Scope} {own : List (Str × Nat)} {spos : Pos} {src : TId} {g : TGd} {c : TTd} {t : TEd} (hc : X.calm = true) (hN : X.N.Nodup)
    (hsw : swapsWith (.ListComp elt [⟨tg, iter, ifs, 0⟩] scope pos) (some (.Name y py)) spos.line X.env = pure true) (hi : PDI true X Z tg iter src) (ok : BlkOk X.N X.env.scope scope own)
    (hg : ∀ (s : Shared) (H : Hp) (C : Addr) (cl : List (Str × Addr)) (fp : List Addr), PDG (X.blk s H scope (compEnvC scope cl C X.env) fp) (own.map (·.2)) tg g) (ht : ∀ (s : Shared) (H : Hp) (C : Addr) (cl : List (Str × Addr)) (fp : List Addr), PDTs (X.blk s H scope (compEnvC scope cl C X.env) fp) Z0 ifs c)
    (he : ∀ (s : Shared) (H : Hp) (C : Addr) (cl : List (Str × Addr)) (fp : List Addr), PD (X.blk s H scope (compEnvC scope cl C X.env) fp) Z0 elt t) (hy : X.N[i]? = some y := by rfl) (hyl : X.env.scope.names.lookup y = some .local := by rfl) (hs : ∀ x, foldedSetIterable iter X.env x = pure x := by intro _; rfl) :
    PDS X Z (.Assign [.Name y py] (.ListComp elt [⟨tg, iter, ifs, 0⟩] scope pos) spos) (sSet i (dLc src g c t (own.map (·.2)))) := by
  obtain ⟨wi, p, s⟩ := hi
  exact ⟨_, ps_setLc hc hN hy hyl hsw p ok (fun s H C cl fp => (hg s H C cl fp).pg) (fun s H C cl fp => (ht s H C cl fp).pts) (fun s H C cl fp => (he s H C cl fp).pe) hs, snd_set (snd_lc s)⟩
/-- a, b = e -/
def sAsg (te : TEd) (g : TGd) : TSd := fun D ρ => te ρ fun w => match w with
  | .d d => g d ρ D.nx
  | _ => False
theorem ds_asg {tg : Expr} {g : TGd} {us : List Nat} (he : PD X Z e te) (hg : PDG X us tg g) (hs : swapsWithSole [tg] e pos.line X.env = pure false := by rfl) (hw : swappedStores [tg] e X.env = pure none := by rfl)
    (h1 : (assignEach [tg] X.env).map (·.2) = [assign tg X.env] := by rfl) : PDS X Z (.Assign [tg] e pos) (sAsg te g) := by
  obtain ⟨t1, p1, s1⟩ := he
  obtain ⟨g1, pg, sg⟩ := hg
  refine ⟨_, ps_asg p1 pg hs hw h1, fun G0 H0 G H σ ρ D' D E gd h n r b c => ?_⟩
  refine s1 G0 H0 G H σ ρ _ _ E gd h fun v w G1 H1 u1 r1 q1 => ?_
  cases w with
  | d d => exact sg G0 H0 G1 H1 σ ρ d v _ _ (E.to u1) r1 q1 fun σ' ρ' E' _ _ q => n σ' G1 H1 ρ' E' q
  | _ => exact q1.elim
/-- an expression dropped -/
def sDrop (te : TEd) : TSd := fun D ρ => te ρ fun _ => D.nx ρ
theorem ds_expr (he : PD X Z e te) (hs : swapsWith e none pos.line X.env = pure false := by rfl) : PDS X Z (.Expr e pos) (sDrop te) := by
  obtain ⟨t1, p1, s1⟩ := he
  refine ⟨_, ps_expr p1 hs, fun G0 H0 G H σ ρ D' D E gd h n r b c => ?_⟩
  exact s1 G0 H0 G H σ ρ _ _ E gd h fun v w G1 H1 u1 r1 q1 => n σ G1 H1 ρ (E.to u1) q1
theorem ds_doc {x j pos'} : PDS X Z (.Expr (.Constant (.str x) j pos) pos') sNext := ⟨_, ps_doc, fun G0 H0 G H σ ρ D' D E gd h n r b c => n σ G H ρ E h⟩
/-- an own list is data from here on -/
def sFrz (i : Nat) (t : TSd) : TSd := fun D ρ => match gx ρ i with
  | some w => match frzW w with
    | some x => t D (ρ.set i (some (.d x)))
    | none => False
  | none => False
theorem ds_frz (i : Nat) (h : PDS X Z st t) : PDS X Z st (sFrz i t) := by
  obtain ⟨t1, p1, s1⟩ := h
  refine ⟨_, p1, fun G0 H0 G H σ ρ D' D E gd h n r b c => ?_⟩
  unfold sFrz at h
  split at h
  · rename_i w e1
    split at h
    · rename_i x e2
      obtain ⟨G', E'⟩ := E.frzX (gx_some e1) e2
      exact s1 G0 H0 G' H σ _ D' D E' gd h n r b c
    · exact h.elim
  · exact h.elim
/-! ### an own list changed -/
theorem own_at {G0 H0 G H : Hp} {σ : L2.St} {ρ : En} {i : Nat} {xs : List PyData} (E : DEnv K G0 H0 G H σ ρ) (h : gx ρ i = some (.l xs)) : ∃ p vs, σ[i]? = some (some (.ref p)) ∧ H p = some (.lst vs) ∧ xs.length ≤ sizeLine ∧ IsAll K G vs xs := by
  obtain ⟨v, a, ⟨p, vs, rfl, h1, h2, _, h3, z, h4⟩, _⟩ := E.slot i _ (gx_some h)
  exact ⟨p, vs, a, h3, z, h4⟩
def onL (ρ : En) (i : Nat) (k : List PyData → Prop) : Prop := match gx ρ i with
  | some (.l xs) => k xs
  | _ => False
theorem onL_of {ρ : En} {i : Nat} {k : List PyData → Prop} (h : onL ρ i k) : ∃ xs, gx ρ i = some (.l xs) ∧ k xs := by
  unfold onL at h
  split at h
  · exact ⟨_, by assumption, h⟩
  · exact h.elim
/-- xs.append(e) -/
def sApp (i : Nat) (te : TEd) : TSd := fun D ρ => onL ρ i fun xs => te ρ fun w => onFw w fun y => xs.length < sizeLine ∧ D.nx (ρ.set i (some (.l (xs ++ [y]))))
theorem snd_app {i : Nat} {ue : TE} (s1 : Snd K Z ue te) : SndS K Z (tDrop (tBM K "list" rAppend (tVar i) (tCons ue tNil))) (sApp i te) := by
  intro G0 H0 G H σ ρ D' D E gd h n r b c
  obtain ⟨xs, e1, h⟩ := onL_of h
  obtain ⟨p, vs, hp, hv, z, a⟩ := own_at E e1
  refine ⟨.ref p, hp, .inl ⟨rfl, vs, SqL.of hv⟩, ?_⟩
  refine s1 G0 H0 G H σ ρ _ _ E gd h fun v w G1 H1 u1 r1 q1 => ?_
  obtain ⟨y, ey, q1⟩ := onFw_of q1
  obtain ⟨zl, q⟩ := q1
  have uf := frzAll_up u1
  have E1 := E.to uf
  exact ⟨p, vs, v, rfl, rfl, u1.h _ _ hv, by rw [a.len]; exact zl, n _ _ _ _ (E1.mut (gx_some e1) hp (by rw [List.length_append]; simp; omega) ((a.up uf.g).append (.one (r1.frz u1.gh ey)))) q⟩
end
end DL

/-! DL5: loops, promises by data, calls; texts by their methods; own lists changed; the draws. -/
namespace DL
open PySem PySem.Spec PyProof.Rows L2

/-! ### another stable heap at the entry -/
section
variable {K : KW} {Z : Wish} {G0 H0 G1 G H : Hp} {σ : L2.St} {ρ : En}
theorem Up.base {G' H' : Hp} (u : Up G0 H0 G1 H) (u' : Up G1 H0 G' H') : Up G0 H0 G' H' := ⟨u.g.trans u'.g, u'.h, u'.gh, fun a h g => u'.sep a h (u.sep a h g)⟩
theorem DEnv.rebase (E : DEnv K G0 H0 G H σ ρ) : DEnv K G H0 G H σ ρ := ⟨⟨Ex.refl _, E.up.h, E.up.gh, fun _ _ g => g⟩, E.own, E.len⟩
theorem DEnv.back {G' H' : Hp} {σ' : L2.St} {ρ' : En} (u : Up G0 H0 G1 H) (E : DEnv K G1 H0 G' H' σ' ρ') : DEnv K G0 H0 G' H' σ' ρ' := ⟨u.base E.up, E.own, E.len⟩
theorem Good.base (g : Good K Z G0 H0) (u : Up G0 H0 G1 H) : Good K Z G1 H0 := fun cls d G' H' fs u' x q => g cls d G' H' fs (u.base u') x q
end

/-! ### loops -/
def sFor (src : TId) (g : TGd) (body : TSd) : TSd := fun D ρ => src ρ fun ds => ∃ I : Nat → En → Prop, I 0 ρ ∧
  (∀ i x ρ', ds[i]? = some x → I i ρ' → g x ρ' fun ρ2 => body { D with nx := I (i + 1), ct := I (i + 1), bk := D.nx } ρ2) ∧ ∀ ρ', I ds.length ρ' → D.nx ρ'
def sWhile (c : TTd) (body : TSd) : TSd := fun D ρ => ∃ I : Nat → En → Prop, (∃ m, I m ρ) ∧ ∀ m ρ', I m ρ' → c ρ' fun b => if b = true then
  ∃ N : En → Prop, (∀ ρ2, N ρ2 → ∃ m', m' < m ∧ I m' ρ2) ∧ body { D with nx := N, ct := N, bk := D.nx } ρ' else D.nx ρ'
section
variable {X : Cx} {Z : Wish} {pos : Pos} {K : KW}
theorem ds_for {tg iter : Expr} {body : List Stmt} {src : TId} {us : List Nat} {g : TGd} {t : TSd} (hc : X.calm = true) (hi : PDI false X Z tg iter src) (hg : PDG X us tg g) (hb : PDSs X Z body t)
    (hp : PassesOwn (model X.prog X.w) X.A X.env X.xe := by exact PassesOwn.never) (hs : ∀ x, foldedSetIterable iter X.env x = pure x := by intro _; rfl) : PDS X Z (.For tg iter body [] pos) (sFor src g t) := by
  obtain ⟨wi, pi, si⟩ := hi
  obtain ⟨gg, pg, sg⟩ := hg
  obtain ⟨tb, pb, sb⟩ := hb
  refine ⟨_, ps_for hp hc pi pg pb hs, fun G0 H0 G H σ ρ D' D E gd h n r b c => ?_⟩
  refine si G0 H0 G H σ ρ _ _ E gd h fun J G1 H1 ds u1 itok zl q => ?_
  obtain ⟨I, i0, istep, iend⟩ := q
  have itok' : ItOk (kw X) G1 H0 J ds := itok
  have E1 := E.to u1
  have gd1 := gd.base E1.up
  refine ⟨fun i m σ' H' => m = ds.length - i ∧ i ≤ ds.length ∧ ∃ G' ρ', DEnv (kw X) G1 H0 G' H' σ' ρ' ∧ I i ρ', ⟨ds.length, by simp, Nat.zero_le _, G1, ρ, E1.rebase, i0⟩, ?_⟩
  rintro i m σ' H' ⟨rfl, hi, G', ρ', E', hI⟩
  obtain ⟨t1, t2⟩ := itok' G' H' E'.up.g E'.up.gh E'.up.h i
  by_cases hlt : i < ds.length
  · obtain ⟨hgo, hy⟩ := t1 ds[i] (List.getElem?_eq_getElem hlt)
    refine .inr ⟨hgo, fun σ2 H2 => ∃ G' ρ', DEnv (kw X) G1 H0 G' H2 σ2 ρ' ∧ I (i + 1) ρ', fun σ2 H2 hN => ⟨ds.length - (i + 1), by omega, rfl, hlt, hN⟩, fun x H3 y => ?_⟩
    obtain ⟨G3, u3, ix⟩ := hy x H3 y
    refine sg G1 H0 G3 H3 σ' ρ' ds[i] x _ _ (E'.to u3) ix (istep i _ ρ' (List.getElem?_eq_getElem hlt) hI) fun σ2 ρ2 E2 _ _ q2 => ?_
    refine sb G1 H0 G3 H3 σ2 ρ2 _ _ E2 gd1 q2 (fun σ4 G4 H4 ρ4 E4 q4 => ⟨G4, ρ4, E4, q4⟩) (fun v w G4 H4 u4 r4 q4 => r v w G4 H4 (E1.up.base u4) r4 q4) (fun σ4 G4 H4 ρ4 E4 q4 => n σ4 G4 H4 ρ4 (E4.back E1.up) q4) (fun σ4 G4 H4 ρ4 E4 q4 => ⟨G4, ρ4, E4, q4⟩)
  · have e : i = ds.length := by omega
    subst e
    exact .inl ⟨t2 rfl, n σ' G' H' ρ' (E'.back E1.up) (iend ρ' hI)⟩
theorem ds_while {ce : Expr} {body : List Stmt} {c : TTd} {t : TSd} (hc : PDT X Z ce c) (hb : PDSs X Z body t) (hp : PassesOwn (model X.prog X.w) X.A X.env X.xe := by exact PassesOwn.never) : PDS X Z (.While ce body [] pos) (sWhile c t) := by
  obtain ⟨tc, pc, sc⟩ := hc
  obtain ⟨tb, pb, sb⟩ := hb
  refine ⟨_, ps_while hp pc pb, fun G0 H0 G H σ ρ D' D E gd h n r b ct => ?_⟩
  obtain ⟨I, ⟨m0, i0⟩, turn⟩ := h
  refine ⟨fun m σ' H' => ∃ G' ρ', DEnv (kw X) G0 H0 G' H' σ' ρ' ∧ I m ρ', ⟨m0, G, ρ, E, i0⟩, ?_⟩
  rintro m σ' H' ⟨G', ρ', E', hI⟩
  refine sc G0 H0 G' H' σ' ρ' _ _ E' gd (turn m ρ' hI) fun d G1 H1 u1 q1 => ?_
  cases d with
  | true =>
    replace q1 := (show (if true = true then _ else _) from q1)
    rw [if_pos rfl] at q1
    obtain ⟨N, hN, q⟩ := q1
    refine iteT ?_
    refine ⟨fun σ2 H2 => ∃ G2 ρ2, DEnv (kw X) G0 H0 G2 H2 σ2 ρ2 ∧ N ρ2, fun σ2 H2 ⟨G2, ρ2, E2, n2⟩ => ?_, sb G0 H0 G1 H1 σ' ρ' _ _ (E'.to u1) gd q (fun σ4 G4 H4 ρ4 E4 q4 => ⟨G4, ρ4, E4, q4⟩) r n (fun σ4 G4 H4 ρ4 E4 q4 => ⟨G4, ρ4, E4, q4⟩)⟩
    obtain ⟨m', hm, i'⟩ := hN ρ2 n2
    exact ⟨m', hm, G2, ρ2, E2, i'⟩
  | false =>
    replace q1 := (show (if false = true then _ else _) from q1)
    rw [if_neg Bool.false_ne_true] at q1
    exact iteF (n σ' G1 H1 ρ' (E'.to u1) q1)
end

/-! ### promises by data -/
abbrev Spd := List W → (W → Prop) → XEd → Prop
/-- an argument -/
def AR (K : KW) (G H : Hp) (v : V) : W → Prop
  | .d x => Is K G v x
  | .b xs => ∃ p vs, v = .ref p ∧ SqL K H p vs ∧ xs.length ≤ sizeLine ∧ IsAll K G vs xs
  | .drw => ∃ p, v = .ref p ∧ G p = some (drwO p)
  | .x (.bm kvs) => ∃ p vals, v = .ref p ∧ DRel K G H p (dkeys kvs) vals ∧ IsAll K G vals (dvals kvs)
  | _ => False
inductive ARs (K : KW) (G H : Hp) : List V → List W → Prop
  | nil : ARs K G H [] []
  | cons {v : V} {w : W} {vs : List V} {ws : List W} : AR K G H v w → ARs K G H vs ws → ARs K G H (v :: vs) (w :: ws)
def toSp (K : KW) (spd : Spd) : Sp := fun vs H Q E => ∃ G ws Q' E', Ex G H ∧ ARs K G H vs ws ∧ spd ws Q' E' ∧ (∀ v w G' H', Up G H G' H' → RR K H H G' H' v w → Q' w → Q v H') ∧ Good K ⟨E, E'⟩ G H
def argW : W → W
  | .l xs => .b xs
  | .r xs => .b xs
  | .d (.list xs) => .b xs
  | .d (.dict kvs) => .x (.bm kvs)
  | .x (.m kvs) => .x (.bm kvs)
  | .x (.rm kvs) => .x (.bm kvs)
  | w => w
/-- what a call may hand back -/
def onRes (w : W) (k : W → Prop) : Prop := match w with
  | .d x => k (.d x)
  | .l x => k (.l x)
  | .drw => k .drw
  | .x (.m kvs) => k (.x (.m kvs))
  | _ => False
/-- what an argument may be -/
def okA : W → Prop
  | .x (.ml _) => False
  | .x (.rml _) => False
  | _ => True
theorem RR.arg {K : KW} {G0 H0 Hs G H : Hp} {σ : L2.St} {ρ : En} {v : V} {w : W} (r : RR K H0 Hs G H v w) (E : DEnv K G0 H0 G H σ ρ) (ok : okA w) : AR K G H v (argW w) := by
  cases w with
  | d y =>
    cases y with
    | list xs => cases r with | lst hs z ha => exact ⟨_, _, rfl, SqL.of (E.gh _ _ hs), z, ha⟩
    | dict kvs =>
      obtain ⟨p, vals, e, h1, h2⟩ := Is.inD r
      exact ⟨p, vals, e, h1.up (Ex.refl _) fun o z => E.gh _ _ z, h2⟩
    | _ => exact r
  | l xs => exact r.asL E rfl
  | b xs => exact r.asL E rfl
  | r xs => exact r.asL E rfl
  | drw => exact r
  | x y =>
    cases y with
    | m kvs => obtain ⟨p, vals, e, _, _, _, h3, h4⟩ := r; exact ⟨p, vals, e, h3, h4⟩
    | rm kvs => exact r
    | bm kvs => obtain ⟨p, vals, e, h3, h4⟩ := r; exact ⟨p, vals, e, h3.up (Ex.refl _) fun o z => E.up.h _ _ z, h4⟩
    | ml kvs => exact ok.elim
    | rml kvs => exact ok.elim
/-- all of them may be arguments -/
def okAs : List W → Prop
  | [] => True
  | .x (.ml _) :: _ => False
  | .x (.rml _) :: _ => False
  | _ :: ws => okAs ws
theorem okAs_cons {w : W} {ws : List W} (h : okAs (w :: ws)) : okA w ∧ okAs ws := by
  cases w with
  | x y => cases y <;> first | exact h.elim | exact ⟨trivial, h⟩
  | _ => exact ⟨trivial, h⟩
theorem RRs.args {K : KW} {G0 H0 Hs G H : Hp} {σ : L2.St} {ρ : En} (E : DEnv K G0 H0 G H σ ρ) : ∀ {vs : List V} {ws : List W}, RRs K H0 Hs G H vs ws → okAs ws → ARs K G H vs (ws.map argW)
  | _, _, .nil, _ => .nil
  | _, _, .cons a b, ok => .cons (a.arg E (okAs_cons ok).1) (RRs.args E b (okAs_cons ok).2)
/-- .. as a test that is reckoned -/
def okB : List W → Bool
  | [] => true
  | .x (.ml _) :: _ => false
  | .x (.rml _) :: _ => false
  | _ :: ws => okB ws
theorem okB_of : ∀ {ws : List W}, okB ws = true → okAs ws
  | [], _ => trivial
  | w :: ws, h => by
    cases w with
    | x y => cases y <;> first | exact (Bool.false_ne_true h).elim | exact okB_of (ws := ws) h
    | _ => exact okB_of (ws := ws) h
def onOk (b : Bool) (p : Prop) : Prop := match b with
  | true => p
  | false => False
theorem onOk_of {b : Bool} {p : Prop} (h : onOk b p) : b = true ∧ p := by
  cases b with
  | true => exact ⟨rfl, h⟩
  | false => exact h.elim
def dCall (spd : Spd) (ZD : XEd) (u : TAd) : TEd := fun ρ Q => u ρ fun ws => onOk (okB ws) (spd (ws.map argW) (fun w => onRes w Q) ZD)
section
variable {X : Cx} {Z : Wish} {pos : Pos} {K : KW}
theorem snd_call {spd : Spd} {ts : TA} {u : TAd} {ZE : XK} {ZD : XEd} (s : SndA K ⟨ZE, ZD⟩ ts u) : Snd K ⟨ZE, ZD⟩ (tCall (toSp K spd) [] ZE ts) (dCall spd ZD u) := by
  intro G0 H0 G H σ ρ Q' Q E gd hh k
  refine s G0 H0 G H σ ρ _ _ E gd hh fun vs ws G1 H1 u1 r1 q1 => ?_
  have E1 := E.to u1
  obtain ⟨okb, q1⟩ := onOk_of q1
  rw [List.append_nil]
  refine ⟨G1, ws.map argW, _, ZD, u1.gh, r1.args E1 (okB_of okb), q1, fun v w G2 H2 u2 r2 q2 => ?_, fun cls d G' H' fs u' x q => gd cls d G' H' fs (E1.up.trans u') x q⟩
  cases w with
  | d x => exact k v (.d x) G2 H2 (u1.trans u2) r2 q2
  | l x =>
    obtain ⟨p, us, e, h1, h2⟩ := r2
    exact k v (.l x) G2 H2 (u1.trans u2) ⟨p, us, e, u1.h.back h1, h2⟩ q2
  | drw => exact k v .drw G2 H2 (u1.trans u2) r2 q2
  | b x => exact q2.elim
  | r x => exact q2.elim
  | x y =>
    cases y with
    | m kvs => exact k v (.x (.m kvs)) G2 H2 (u1.trans u2) (RR.at r2 u1.h) q2
    | _ => exact q2.elim
/-- f(e, ..) -/
theorem d_call {ZE : XK} {ZD : XEd} {CX : CXT} {k : Nat} {f : Addr} {fd : FuncData} {ps : List Str} {spd : Spd} {x : Str} {p : Pos} {e : Expr} {es : List Expr} {u : TAd} (F : FnOk X.prog X.w (kw X) X.mg X.base CX k f fd ps (toSp (kw X) spd)) (hr : Room k X.A) (hm : X.mg x = some (.ref f)) (hk : PySem.W.keepIn (kw X) (.ref f) = true) (hb : Binds (kw X) fd ps [])
    (hx : Passes CX X ZE) (ha : PDA X ⟨ZE, ZD⟩ (e :: es) u) (hg : Gl X x := by rfl) (hdb : (x == ("__debug__" : Str)) = false := by decide) (he : starEach (e :: es) X.env = (false, eval e X.env) :: starEach es X.env := by rfl) (hpl : (backTo pos (starEach es X.env)).any (·.1) = false := by rfl) :
    PD X ⟨ZE, ZD⟩ (.Call (.Name x p) (e :: es) [] pos) (dCall spd ZD u) := by
  obtain ⟨ts, pa, sa⟩ := ha
  exact ⟨_, pe_call F hr hg hm hk hb .nil hx pa hdb he hpl, snd_call sa⟩
end
def startD (N : List Str) (ws : List W) : En := ws.map some ++ List.replicate (N.length - ws.length) none
theorem ARs.len {K : KW} {G H : Hp} : ∀ {vs : List V} {ws : List W}, ARs K G H vs ws → vs.length = ws.length
  | _, _, .nil => rfl
  | _, _, .cons _ b => by simp [ARs.len b]
theorem ARs.get {K : KW} {G H : Hp} : ∀ {vs : List V} {ws : List W} {i : Nat} {w : W}, ARs K G H vs ws → ws[i]? = some w → ∃ v, vs[i]? = some v ∧ AR K G H v w
  | _, _, _, _, .nil, e => by simp at e
  | _, _, 0, _, .cons a b, e => by
    simp at e; subst e; exact ⟨_, rfl, a⟩
  | _, _, i + 1, w, .cons a b, e => by
    obtain ⟨v, h1, h2⟩ := ARs.get (i := i) b (by simpa using e)
    exact ⟨v, by simpa using h1, h2⟩
theorem startD_some {N : List Str} {ws : List W} {i : Nat} {w : W} (h : (startD N ws)[i]? = some (some w)) : ws[i]? = some w := by
  unfold startD at h
  by_cases hi : i < ws.length
  · rw [List.getElem?_append_left (by simpa using hi), List.getElem?_map] at h
    cases e : ws[i]? with
    | none => rw [e] at h; cases h
    | some a => rw [e] at h; cases h; rfl
  · rw [List.getElem?_append_right (by simpa using hi), List.getElem?_replicate] at h
    split at h <;> cases h
theorem env_start {K : KW} {G H : Hp} {N : List Str} {vs : List V} {ws : List W} (gh : Ex G H) (a : ARs K G H vs ws) : DEnv K G H G H (L2.start N vs) (startD N ws) := by
  refine ⟨Up.refl gh, ⟨fun _ => none, fun a ha => absurd rfl ha, fun i w h => ?_⟩, ?_⟩
  · obtain ⟨v, hv, r⟩ := a.get (startD_some h)
    refine ⟨v, ?_, ?_⟩
    · unfold L2.start
      have hl := (List.getElem?_eq_some_iff.mp hv).1
      rw [List.getElem?_append_left (by simpa using hl), List.getElem?_map, hv]; rfl
    · cases w with
      | l xs => exact r.elim
      | r xs => exact r.elim
      | x y =>
        cases y with
        | bm kvs => exact ⟨r, (fun xs z => nomatch z), (fun xs z => nomatch z), fun xs z => nomatch z⟩
        | _ => exact r.elim
      | _ => exact ⟨r, (fun xs z => nomatch z), (fun xs z => nomatch z), fun xs z => nomatch z⟩
  · unfold L2.start startD
    rw [List.length_append, List.length_append, List.length_map, List.length_map, List.length_replicate, List.length_replicate, a.len]
/-- THE RULE for a def that raises nothing: its body as a term of data rules, and the reading of that term -/
theorem okD {P : Program} {w : World} {K : PySem.W.Frag} {mg : Str → Option Value} {base : Heap} {x qual : Str} {st : Stmt} {f : Addr} {fd : FuncData} {N ps : List Str} {k : Nat} {spd : Spd} {t : XEd → TSd} (F : Fun K x qual st f fd) (S : FnScope N ps (defScope st)) (len : ∀ ws Q E, spd ws Q E → ws.length = ps.length)
    (hbody : ∀ (cdv : Value) (A : Around) (outer : List Env) (s : Shared) (H : Hp) (E : XK) (D : XEd), Room k (A.deeper (envOfC qual (defScope st) s.heap.objs.size f cdv)) → PDSs (cxOf CX0 P w K mg base N qual (defScope st) f cdv A outer s H E).nox ⟨E, D⟩ (defBody st) (t D))
    (hread : ∀ ws Q E, spd ws Q E → t E { nx := fun _ => Q (.d .none), rt := Q } (startD N ws)) : FnOk P w K mg base CX0 (k + 1) f fd ps (toSp ⟨K, w⟩ spd) := by
  refine F.ok S (fun vs H Q E h => ?_) (fun cdv A outer s H vs Q E hr h => ?_)
  · obtain ⟨G, ws, Q', E', gh, a, h, _⟩ := h
    rw [a.len]; exact len ws Q' E' h
  · obtain ⟨G, ws, Q', E', gh, a, h, kq, ke⟩ := h
    obtain ⟨ts, p, s1⟩ := hbody cdv A outer s H E E' hr
    refine ⟨ts, p, s1 G H G H _ _ _ _ (env_start gh a) ke (hread ws Q' E' h) (fun σ' G' H' ρ' E1 q => ?_) (fun v w G' H' u r q => kq v w G' H' u r q) (fun _ _ _ _ _ q => q.elim) (fun _ _ _ _ _ q => q.elim)⟩
    exact kq .non (.d .none) G' H' E1.up .non q

/-! ### texts by their methods, operators -/
section
variable {X : Cx} {Z : Wish} {pos : Pos} {K : KW} {a b : Expr} {ta tb : TEd}
def gJoin (x y : W) (Q : W → Prop) : Prop := match x with
  | .d (.str z) => ∃ (xs : List PyData) (ys : List Str), asQ y = some xs ∧ xs = ys.map PyData.str ∧ (ys.map (·.length)).sum + ys.length * z.length ≤ 16777216 ∧ Q (.d (.str (Txt.join z ys)))
  | _ => False
def dJoin (ta tb : TEd) : TEd := fun ρ Q => ta ρ fun x => (match x with | .d (.str _) => True | _ => False) ∧ tb ρ fun y => gJoin x y Q
theorem join_ok {z : Str} : ∀ {ys : List Str}, okS z → (∀ y ∈ ys, PyData.strOk y = true) → PyData.strOk (Str.join z ys) = true
  | [], _, _ => by simp [Str.join, Str.empty, PyData.strOk]
  | [y], _, h => h y (by simp)
  | y :: y2 :: r, hz, h => by
    have ih := join_ok (ys := y2 :: r) hz fun u hu => h u (List.mem_cons_of_mem _ hu)
    have h1 := h y (by simp)
    have h2 := hz.2
    show PyData.strOk (y ++ z ++ Str.join z (y2 :: r)) = true
    unfold PyData.strOk at *
    show ((y.cps ++ z.cps) ++ (Str.join z (y2 :: r)).cps).all _ = true
    rw [Array.all_append, Array.all_append, h1, h2, ih]; rfl
theorem join_len {z : Str} : ∀ {ys : List Str}, (Str.join z ys).length ≤ (ys.map (·.length)).sum + ys.length * z.length
  | [] => by simp [Str.join, Str.empty, Str.length]
  | [y] => by
    show y.length ≤ (y.length + 0) + 1 * z.length
    omega
  | y :: y2 :: r => by
    have ih := join_len (z := z) (ys := y2 :: r)
    show (y ++ z ++ Str.join z (y2 :: r)).length ≤ _
    rw [str_len, str_len]
    rw [List.map_cons, List.sum_cons, List.length_cons, Nat.succ_mul]
    omega
theorem IsAll.strOk {G : Hp} : ∀ {ys : List Str} {vs : List V}, IsAll K G vs (ys.map .str) → ∀ y ∈ ys, okS y
  | [], _, _, _, h => by cases h
  | y :: ys, _, a, u, h => by
    cases a with | cons h1 h2 =>
    rcases List.mem_cons.mp h with e | e
    · subst e; cases h1 with | str _ ok => exact ok
    · exact IsAll.strOk h2 u e
theorem d_join {apos : Pos} (ha : PD X Z a ta) (hb : PD X Z b tb) (hs : starEach [b] X.env = [(false, eval b X.env)] := by rfl) (hbase : attributeBase a "join" X.env (eval a X.env) = eval a X.env := by rfl) (hline : (apos.endLine == pos.line) = true := by rfl) :
    PD X Z (.Call (.Attribute a "join" apos) [b] [] pos) (dJoin ta tb) := by
  obtain ⟨ua, pa, sa⟩ := ha
  obtain ⟨ub, pb, sb⟩ := hb
  refine ⟨_, pe_join pa pb hs hbase hline, fun G0 H0 G H σ ρ Q' Q E gd hh k => ?_⟩
  refine sa G0 H0 G H σ ρ _ _ E gd hh fun v w G1 H1 u1 r1 q1 => ?_
  obtain ⟨hw, q1⟩ := q1
  cases w with
  | d y =>
    cases y with
    | str z =>
      cases r1 with | str _ okz =>
      refine ⟨⟨z, rfl⟩, ?_⟩
      have E1 := E.to u1
      refine sb G0 H0 G1 H1 σ ρ _ _ E1 gd q1 fun v2 w2 G2 H2 u2 r2 q2 => ?_
      obtain ⟨xs, ys, e1, rfl, hz, q⟩ := q2
      have E2 := E1.to u2
      obtain ⟨p, us, rfl, h1, zl, al⟩ := r2.asQ E2 e1
      have oks := al.strOk
      rw [al.strs] at h1
      refine ⟨z, p, ys, rfl, rfl, h1, hz, k _ (.d (.str (Txt.join z ys))) G2 H2 (u1.trans u2) (.str _ ⟨?_, ?_⟩) q⟩
      · rw [TL.join_eq, sizeLine_eq]
        exact Nat.le_trans join_len hz
      · rw [TL.join_eq]
        exact join_ok okz fun y hy => (oks y hy).2
    | _ => exact hw.elim
  | _ => exact hw.elim
/-- text * int -/
def rMulS : R2 := fun x y H Q => ∃ i n, x = .str i ∧ y = .int n ∧ 0 ≤ n ∧ n ≤ 100000 ∧ i.length ≤ 100 ∧ Q (.str (Txt.mul i n)) H
theorem mulOk_small {i : Str} {n : Int} (h0 : 0 ≤ n) (h1 : n ≤ 100000) (h2 : i.length ≤ 100) : MulOk i n := by
  refine ⟨by simp; omega, fun hn _ => ?_, fun hn _ => ?_⟩
  · have : (100 : Int) ≤ (2 ^ 63 - 1) / n := by
      rw [Int.le_ediv_iff_mul_le (by omega)]
      omega
    omega
  · have h3 : i.length * n.toNat ≤ 10000000 := by
      have : n.toNat ≤ 100000 := by omega
      calc i.length * n.toNat ≤ 100 * 100000 := Nat.mul_le_mul h2 this
        _ = 10000000 := by decide
    have h4 : (16777216 : Nat) = sizeLine := sizeLine_eq.symm
    unfold Builtin.Str.tooLong
    rw [decide_eq_false_iff_not]
    have : (sizeLine : Nat) = 16777216 := sizeLine_eq
    omega
theorem op_mulS : OpR X (binaryOp .Mult) rMulS := by
  intro pins s σ H x y v u Q I rx ry h
  obtain ⟨i, n, rfl, rfl, h0, h1, h2, q⟩ := h
  obtain ⟨t, rfl⟩ := rx
  obtain ⟨t', rfl⟩ := ry
  exact SB.mul (mulOk_small h0 h1 h2) fun t2 k => ⟨.str _, H, I.tok k, ⟨t2, rfl⟩, q⟩
end
end DL

/-! DL6: own lists changed, more operators, the draws opened and closed. -/
namespace DL
open PySem PySem.Spec PyProof.Rows L2
section
variable {X : Cx} {Z : Wish} {pos : Pos} {K : KW} {a b e : Expr} {ta tb te : TEd}
def rMulA : R2 := fun x y H Q => rI CMul (fun i j => .int (i * j)) x y H Q ∨ rMulS x y H Q
theorem op_mulA : OpR X (binaryOp .Mult) rMulA := op_mul.or op_mulS
/-- a * b: ints, a short text by a small int -/
def gMul : W → W → (W → Prop) → Prop
  | .d (.int i), .d (.int j), Q => CMul i j ∧ Q (.d (.int (i * j)))
  | .d (.str i), .d (.int n), Q => 0 ≤ n ∧ n ≤ 100000 ∧ i.length ≤ 100 ∧ Q (.d (.str (Txt.mul i n)))
  | _, _, _ => False
theorem mul_cps (i : Str) : ∀ (m : Nat) (acc : Array Nat), ((List.replicate m i.cps).foldl (· ++ ·) acc).size = acc.size + m * i.length
  | 0, acc => by simp
  | m + 1, acc => by
    rw [List.replicate_succ, List.foldl_cons, mul_cps i m, Array.size_append, Nat.succ_mul]
    show acc.size + i.cps.size + m * i.length = acc.size + (m * i.length + i.cps.size)
    omega
theorem mul_okc (i : Str) (h : PyData.strOk i = true) : ∀ (m : Nat) (acc : Array Nat), acc.all (· < 0x110000) = true → ((List.replicate m i.cps).foldl (· ++ ·) acc).all (· < 0x110000) = true
  | 0, acc, ha => by simpa using ha
  | m + 1, acc, ha => by
    rw [List.replicate_succ, List.foldl_cons]
    refine mul_okc i h m _ ?_
    rw [Array.all_append, ha]
    exact h
theorem okS_mul {i : Str} {n : Int} (hi : okS i) (h0 : 0 ≤ n) (h1 : n ≤ 100000) (h2 : i.length ≤ 100) : okS (Txt.mul i n) := by
  unfold Txt.mul
  split
  · exact ⟨by rw [sizeLine_eq]; decide, by simp [Str.empty, PyData.strOk]⟩
  · split
    · exact hi
    · refine ⟨?_, ?_⟩
      · show ((List.replicate n.toNat i.cps).foldl (· ++ ·) #[]).size ≤ _
        rw [mul_cps, sizeLine_eq]
        have h3 : n.toNat * i.length ≤ 100000 * 100 := Nat.mul_le_mul (by omega) h2
        show 0 + n.toNat * i.length ≤ 16777216
        omega
      · exact mul_okc i hi.2 n.toNat #[] (by simp)
theorem od_mulA : OpD K rMulA gMul := by
  intro G0 H0 Hx Hy G H σ ρ x y wx wy Q' Q E rx ry q k
  unfold gMul at q
  split at q
  · cases rx; cases ry
    exact .inl ⟨_, _, rfl, rfl, q.1, k _ (.d (.int _)) G H (Up.refl E.gh) (.int _) q.2⟩
  · cases rx with | str _ ok =>
    cases ry
    obtain ⟨h0, h1, h2, q⟩ := q
    exact .inr ⟨_, _, rfl, rfl, h0, h1, h2, k _ (.d (.str _)) G H (Up.refl E.gh) (.str _ (okS_mul ok h0 h1 h2)) q⟩
  · exact q.elim

/-! ### own lists changed -/
/-- a method that changes an own list and hands back None -/
theorem snd_mut0 {i : Nat} {r : V → List V → Hp → VK → Prop} {f : List PyData → List PyData} {fV : List V → List V} (hr : ∀ p vs H Q, H p = some (.lst vs) → Q .non (upd H p (.lst (fV vs))) → r (.ref p) [] H Q)
    (hf : ∀ G vs xs, IsAll K G vs xs → IsAll K G (fV vs) (f xs)) (hl : ∀ xs, (f xs).length ≤ xs.length) : SndS K Z (tDrop (tBM0 K "list" r (tVar i))) (fun D ρ => onL ρ i fun xs => D.nx (ρ.set i (some (.l (f xs))))) := by
  intro G0 H0 G H σ ρ D' D E gd h n r0 b c
  obtain ⟨xs, e1, h⟩ := onL_of h
  obtain ⟨p, vs, hp, hv, z, al⟩ := own_at E e1
  exact ⟨.ref p, hp, .inl ⟨rfl, vs, SqL.of hv⟩, hr p vs H _ hv (n _ _ _ _ (E.mut (gx_some e1) hp (Nat.le_trans (hl xs) z) (hf G vs xs al)) h)⟩
/-- xs.reverse() -/
def sRev (i : Nat) : TSd := fun D ρ => onL ρ i fun xs => D.nx (ρ.set i (some (.l xs.reverse)))
theorem snd_rev {i : Nat} : SndS K Z (tDrop (tBM0 K "list" rReverse (tVar i))) (sRev i) :=
  snd_mut0 (f := List.reverse) (fV := List.reverse) (fun p vs H Q h q => ⟨p, vs, rfl, rfl, h, q⟩) (fun G vs xs al => al.rev) fun xs => Nat.le_of_eq (List.length_reverse)
/-- xs.insert(i, y) -/
def insD (xs : List PyData) (i : Int) (y : PyData) : List PyData := xs.take i.toNat ++ [y] ++ xs.drop i.toNat
def rInsert : V → List V → Hp → VK → Prop := fun x vs H Q => ∃ (l : Addr) (xs : List V) (i : Int) (y : V), x = .ref l ∧ vs = [.int i, y] ∧ H l = some (.lst xs) ∧ xs.length < sizeLine ∧ 0 ≤ i ∧ i < 2 ^ 63 ∧
    Q .non (upd H l (.lst (xs.take i.toNat ++ [y] ++ xs.drop i.toNat)))
theorem mt_ins : MtR X "list.insert" rInsert := mt_insert
def sIns (j : Nat) (u : TAd) : TSd := fun D ρ => onL ρ j fun xs => u ρ fun ws => match ws with
  | [.d (.int i), w] => onFw w fun y => xs.length < sizeLine ∧ 0 ≤ i ∧ i < 2 ^ 63 ∧ D.nx (ρ.set j (some (.l (insD xs i y))))
  | _ => False
theorem insD_len (xs : List PyData) (i : Int) (y : PyData) : (insD xs i y).length = xs.length + 1 := by
  unfold insD
  rw [List.length_append, List.length_append, List.length_take, List.length_drop]
  simp
  omega
theorem snd_ins {i : Nat} {us : TA} {u : TAd} (s1 : SndA K Z us u) : SndS K Z (tDrop (tBM K "list" rInsert (tVar i) us)) (sIns i u) := by
  intro G0 H0 G H σ ρ D' D E gd h n r b c
  obtain ⟨xs, e1, h⟩ := onL_of h
  obtain ⟨p, vs, hp, hv, z, al⟩ := own_at E e1
  refine ⟨.ref p, hp, .inl ⟨rfl, vs, SqL.of hv⟩, ?_⟩
  refine s1 G0 H0 G H σ ρ _ _ E gd h fun as ws G1 H1 u1 r1 q1 => ?_
  split at q1
  · obtain ⟨v1, v2, rfl, ra, rb⟩ := r1.two
    cases ra
    obtain ⟨y, ey, q1⟩ := onFw_of q1
    obtain ⟨zl, z0, z1, q⟩ := q1
    have uf := frzAll_up u1
    refine ⟨p, vs, _, v2, rfl, rfl, u1.h _ _ hv, by rw [al.len]; exact zl, z0, z1, n _ _ _ _ ((E.to uf).mut (gx_some e1) hp (by rw [insD_len]; omega) ?_) q⟩
    have al2 := al.up uf.g
    exact ((al2.take _).append (.one (rb.frz u1.gh ey))).append (al2.drop _)
  · exact q1.elim
/-- xs[i] = e -/
def sSetI (j : Nat) (te ti : TEd) : TSd := fun D ρ => onL ρ j fun xs => te ρ fun w => ti ρ fun u => onFw w fun y => onI u fun i => ∃ m, ixN xs.length i = some m ∧ D.nx (ρ.set j (some (.l (xs.set m y))))
theorem snd_seti {j : Nat} {ue ui : TE} {ti : TEd} (s1 : Snd K Z ue te) (s2 : Snd K Z ui ti) : SndS K Z (tAsg ue (L2.gSub (tVar j) ui rSetL)) (sSetI j te ti) := by
  intro G0 H0 G H σ ρ D' D E gd h n r b c
  obtain ⟨xs, e1, h⟩ := onL_of h
  obtain ⟨p, vs, hp, hv, z, al⟩ := own_at E e1
  refine s1 G0 H0 G H σ ρ _ _ E gd h fun v w G1 H1 u1 r1 q1 => ?_
  refine ⟨.ref p, hp, ?_⟩
  refine s2 G0 H0 G1 H1 σ ρ _ _ (E.to u1) gd q1 fun v2 w2 G2 H2 u2 r2 q2 => ?_
  obtain ⟨y, ey, q⟩ := onFw_of q2
  obtain ⟨i, rfl, q⟩ := onI_of r2 q
  obtain ⟨m, hm, q⟩ := q
  have u3 := u1.trans u2
  have uf := frzAll_up u3
  refine ⟨p, vs, i, m, rfl, rfl, u3.h _ _ hv, by rw [al.len]; exact hm, n _ _ _ _ ((E.to uf).mut (gx_some e1) hp (by rw [List.length_set]; exact z) ((al.up uf.g).set m ((r1.up u2).frz u3.gh ey))) q⟩
theorem ds_seti (j : Nat) {x : Str} {i : Expr} {ti : TEd} {pn p2 : Pos} (he : PD X Z e te) (hi : PD X Z i ti) (hN : X.N[j]? = some x := by rfl) (hv : Vis X.env.scope x := by first | exact Or.inl rfl | exact Or.inr (Or.inl rfl) | exact Or.inr (Or.inr rfl)) (hd : (x == ("__debug__" : Str)) = false := by decide)
    (hcd : (x == ("__classdict__" : Str)) = false := by decide) (ha : ∀ v, assign (.Subscript (.Name x pn) i p2) X.env v = (do
      let ov ← holding [v] (eval (.Name x pn) X.env)
      let iv ← holding [v, ov] (eval i X.env)
      standAt p2
      holding [v, ov, iv] (setItem ov iv v)
      release [v, ov, iv] []) := by intro _; rfl) (hs : swapsWithSole [.Subscript (.Name x pn) i p2] e pos.line X.env = pure false := by rfl) (hw : swappedStores [.Subscript (.Name x pn) i p2] e X.env = pure none := by rfl)
    (h1 : (assignEach [.Subscript (.Name x pn) i p2] X.env).map (·.2) = [assign (.Subscript (.Name x pn) i p2) X.env] := by rfl) : PDS X Z (.Assign [.Subscript (.Name x pn) i p2] e pos) (sSetI j te ti) := by
  obtain ⟨t1, p1, s1⟩ := he
  obtain ⟨t2, p22, s2⟩ := hi
  exact ⟨_, ps_asg p1 (pg_sub (pe_var hN hv hd hcd) p22 set_list ha) hs hw h1, snd_seti s1 s2⟩
section
variable {x : Str} {j : Nat} {pn apos cpos : Pos}
theorem ds_app (j : Nat) (he : PD X Z e te) (hN : X.N[j]? = some x := by rfl) (hv : Vis X.env.scope x := by first | exact Or.inl rfl | exact Or.inr (Or.inl rfl) | exact Or.inr (Or.inr rfl)) (hd : (x == ("__debug__" : Str)) = false := by decide) (hcd : (x == ("__classdict__" : Str)) = false := by decide)
    (hbase : attributeBase (.Name x pn) "append" X.env (eval (.Name x pn) X.env) = eval (.Name x pn) X.env := by rfl)
    (hfew : ((backTo cpos (starEach [e] X.env)).all (fun x => !x.1) && (backToKw cpos (keywordEach [] X.env)).all (fun x => x.1.isSome) && decide ([e].length + ([] : List Keyword).length + (if ([] : List Keyword).isEmpty then 0 else 1) < 30)) = true := by rfl)
    (hline : (apos.endLine == cpos.line) = true := by rfl) (hst : starEach [e] X.env = (false, eval e X.env) :: starEach [] X.env := by rfl) (hplain : (backTo cpos (starEach [] X.env)).any (·.1) = false := by rfl)
    (hs : swapsWith (.Call (.Attribute (.Name x pn) "append" apos) [e] [] cpos) none pos.line X.env = pure false := by rfl) :
    PDS X Z (.Expr (.Call (.Attribute (.Name x pn) "append" apos) [e] [] cpos) pos) (sApp j te) := by
  obtain ⟨t1, p0, s1⟩ := he
  have p1 := pa_cons p0 pa_nil hst
  exact ⟨_, ps_expr (pe_bm PySem.F.plainAttrs_list PySem.F.slot_list_append PySem.F.type_list_append mt_append (pe_var hN hv hd hcd) p1 hbase hfew hline hst hplain) hs, snd_app s1⟩
theorem ds_ins (j : Nat) {u : TAd} (hu : PDA X Z [a, b] u) (hN : X.N[j]? = some x := by rfl) (hv : Vis X.env.scope x := by first | exact Or.inl rfl | exact Or.inr (Or.inl rfl) | exact Or.inr (Or.inr rfl)) (hd : (x == ("__debug__" : Str)) = false := by decide) (hcd : (x == ("__classdict__" : Str)) = false := by decide)
    (hbase : attributeBase (.Name x pn) "insert" X.env (eval (.Name x pn) X.env) = eval (.Name x pn) X.env := by rfl)
    (hfew : ((backTo cpos (starEach [a, b] X.env)).all (fun x => !x.1) && (backToKw cpos (keywordEach [] X.env)).all (fun x => x.1.isSome) && decide ([a, b].length + ([] : List Keyword).length + (if ([] : List Keyword).isEmpty then 0 else 1) < 30)) = true := by rfl)
    (hline : (apos.endLine == cpos.line) = true := by rfl) (hst : starEach [a, b] X.env = (false, eval a X.env) :: starEach [b] X.env := by rfl) (hplain : (backTo cpos (starEach [b] X.env)).any (·.1) = false := by rfl)
    (hs : swapsWith (.Call (.Attribute (.Name x pn) "insert" apos) [a, b] [] cpos) none pos.line X.env = pure false := by rfl) :
    PDS X Z (.Expr (.Call (.Attribute (.Name x pn) "insert" apos) [a, b] [] cpos) pos) (sIns j u) := by
  obtain ⟨t1, p1, s1⟩ := hu
  exact ⟨_, ps_expr (pe_bm PySem.F.plainAttrs_list PySem.F.slot_list_insert PySem.F.type_list_insert mt_ins (pe_var hN hv hd hcd) p1 hbase hfew hline hst hplain) hs, snd_ins s1⟩
theorem ds_rev (j : Nat) (hN : X.N[j]? = some x := by rfl) (hv : Vis X.env.scope x := by first | exact Or.inl rfl | exact Or.inr (Or.inl rfl) | exact Or.inr (Or.inr rfl)) (hd : (x == ("__debug__" : Str)) = false := by decide) (hcd : (x == ("__classdict__" : Str)) = false := by decide) (hbase : attributeBase (.Name x pn) "reverse" X.env (eval (.Name x pn) X.env) = eval (.Name x pn) X.env := by rfl) (hline : (apos.endLine == cpos.line) = true := by rfl)
    (hs : swapsWith (.Call (.Attribute (.Name x pn) "reverse" apos) [] [] cpos) none pos.line X.env = pure false := by rfl) : PDS X Z (.Expr (.Call (.Attribute (.Name x pn) "reverse" apos) [] [] cpos) pos) (sRev j) :=
  ⟨_, ps_expr (pe_bm0 PySem.F.plainAttrs_list PySem.F.slot_list_reverse PySem.F.type_list_reverse mt_reverse (pe_var hN hv hd hcd) hbase hline) hs, snd_rev⟩
end
end

/-! ### the draws, opened and closed -/
section
variable {X : Cx} {st : List Stmt}
theorem inv_open {pins : List (Addr × Obj)} {σ : L2.St} {H : Hp} {s : Shared} {p : Addr} (I : Inv X pins σ H s) (h : H p = some (drwO p)) : ∃ ns, DrwOk ns ∧ Inv X pins σ (upd H p (.lst (ns.map V.int))) s := by
  obtain ⟨⟨ns, its, n, ok, rv, hg⟩, _, _⟩ := (show ObjOk X.prog X.w H s.heap p (drwO p) from I.hok p _ h)
  refine ⟨ns, ok, I.write (x := p) (e := p) (t' := s.toks) (by rw [h]; trivial) (.inl rfl) (fun b u _ q => q) ⟨_, hg⟩ ⟨?_, its, n, rv, hg⟩⟩
  rw [List.length_map, sizeLine_eq]
  have := ok.1
  omega
theorem inv_close {pins : List (Addr × Obj)} {σ : L2.St} {H : Hp} {s : Shared} {p : Addr} {ns : List Int} (I : Inv X pins σ H s) (ok : DrwOk ns) (h : H p = some (.lst (ns.map V.int))) : Inv X pins σ (upd H p (drwO p)) s := by
  obtain ⟨_, its, n, rv, hg⟩ := (show ObjOk X.prog X.w H s.heap p (.lst (ns.map V.int)) from I.hok p _ h)
  refine I.write (x := p) (e := p) (t' := s.toks) (by rw [h]; trivial) (.inl rfl) (fun b u _ q => q) ⟨_, hg⟩ ⟨⟨ns, its, n, ok, rv, hg⟩, ⟨_, hg⟩, fun h1 h2 ⟨ns1, its1, n1, ok1, rv1, hg1⟩ k => ⟨ns1, its1, n1, ok1, rv1, k _ hg1⟩⟩
/-- a body that reads and pops the draws at p -/
def tOpn (t : TS) : TS := fun D σ H => ∃ p, H p = some (drwO p) ∧ ∀ ns, DrwOk ns → t { nx := fun σ' H2 => ∃ ns', DrwOk ns' ∧ H2 p = some (.lst (ns'.map V.int)) ∧ D.nx σ' (upd H2 p (drwO p)), rt := fun v H2 => ∃ ns', DrwOk ns' ∧ H2 p = some (.lst (ns'.map V.int)) ∧ D.rt v (upd H2 p (drwO p)) } σ (upd H p (.lst (ns.map V.int)))
theorem pss_opn {t : TS} (h : PSs X st t) : PSs X st (tOpn t) := by
  refine ⟨fun pins s σ H D I hw => ?_⟩
  obtain ⟨p, hp, hw⟩ := hw
  obtain ⟨ns, ok, I1⟩ := inv_open I hp
  refine thn (h.run pins s σ _ _ I1 (hw ns ok)) fun f s1 q => ?_
  cases f with
  | next => obtain ⟨σ', H', I', ns', ok', e, q⟩ := q; exact ⟨σ', _, inv_close I' ok' e, q⟩
  | ret v => obtain ⟨x, σ', H', I', r, ns', ok', e, q⟩ := q; exact ⟨x, σ', _, inv_close I' ok' e, r, q⟩
  | brk => obtain ⟨σ', H', I', q⟩ := q; exact q.elim
  | cont => obtain ⟨σ', H', I', q⟩ := q; exact q.elim
/-- a body that hands out a list as the draws -/
def tCls (t : TS) : TS := fun D σ H => t { D with rt := fun v H2 => ∃ p ns, v = .ref p ∧ DrwOk ns ∧ H2 p = some (.lst (ns.map V.int)) ∧ D.rt v (upd H2 p (drwO p)) } σ H
theorem pss_cls {t : TS} (h : PSs X st t) : PSs X st (tCls t) := by
  refine ⟨fun pins s σ H D I hw => ?_⟩
  refine thn (h.run pins s σ _ _ I hw) fun f s1 q => ?_
  cases f with
  | next => exact q
  | ret v => obtain ⟨x, σ', H', I', r, p, ns, e, ok, hp, q⟩ := q; exact ⟨x, σ', _, inv_close I' ok hp, r, q⟩
  | brk => exact q
  | cont => exact q
def sDrw (t : TSd) : TSd := fun D ρ => t { D with rt := fun w => ∃ ns : List Int, w = .l (ns.map .int) ∧ DrwOk ns ∧ D.rt .drw } ρ
theorem dss_drw {Z : Wish} {t : TSd} (h : PDSs X Z st t) : PDSs X Z st (sDrw t) := by
  obtain ⟨ts, p, s⟩ := h
  refine ⟨_, pss_cls p, fun G0 H0 G H σ ρ D' D E gd h n r b c => ?_⟩
  refine s G0 H0 G H σ ρ { D' with rt := _ } { D with rt := _ } E gd h n (fun v w G' H' u rr q => ?_) b c
  obtain ⟨ns, rfl, ok, q⟩ := q
  obtain ⟨p2, vs, rfl, h1, h2, _, h3, z, al⟩ := rr
  rw [al.ints] at h3
  have g0 : G0 p2 = none := u.g.back h2
  refine ⟨p2, ns, rfl, ok, h3, r _ .drw (upd G' p2 (drwO p2)) _ ⟨u.g.mut g0, u.h.mut h1, fun a o e => ?_, fun a ha hg => ?_⟩ ⟨p2, rfl, upd_same⟩ q⟩
  · by_cases e1 : a = p2
    · subst e1; rw [upd_same] at e ⊢; exact e
    · rw [upd_ne e1] at e ⊢; exact u.gh a o e
  · rw [upd_ne (fun z => ha (by rw [z]; exact h1))]; exact u.sep a ha hg
end
end DL

/-! DL7: ends of a law. -/
namespace L2
theorem Room.u65 {k : Nat} {A : PySem.Around} (r : Room k A) : A.units + 65 < PySem.cLine := by have := r.un; omega
end L2
namespace DL
open PySem PySem.Spec PyProof.Rows L2
/-- the promise of a law: from a script to True -/
def spLawD : Spd := fun ws Q _ => match ws with
  | [.b xs] => ∃ ns : List Int, xs = ns.map .int ∧ ns.length ≤ 63 ∧ Q (.d (.bool true))
  | _ => False
theorem law_start {K : KW} {H : Hp} {a : Addr} {ns : List Int} {Q : VK} {E : XK} (hl : ns.length ≤ 63) (hS : SqL K H a (ns.map V.int)) (q : ∀ H', Q (.bl true) H') : toSp K spLawD [.ref a] H Q E := by
  refine ⟨fun _ => none, [.b (ns.map .int)], fun w => w = .d (.bool true), fun _ _ => False, (fun _ _ h => nomatch h), .cons ⟨a, _, rfl, hS, ?_, IsAll.ofInts ns⟩ .nil, ⟨ns, rfl, hl, rfl⟩, fun v w G' H' u r e => ?_, fun _ _ _ _ _ _ _ h => h.elim⟩
  · rw [List.length_map, sizeLine_eq]; omega
  · subst e; cases r; exact q H'
/-- a word: the law's and the program's letters -/
def lettersS : Str := Str.ofString "abcdefghijklmnopqrstuvwxyz"
theorem if_iff {c : Prop} [Decidable c] {A B : Prop} (h1 : c → A) (h2 : ¬ c → B) : if c then A else B := by
  by_cases h : c
  · rw [if_pos h]; exact h1 h
  · rw [if_neg h]; exact h2 h
theorem ifd {c : Prop} [Decidable c] {A B : Prop} (h1 : c → A) (h2 : ¬ c → B) : if decide c = true then A else B := by
  by_cases h : c
  · rw [if_pos (decide_eq_true h)]; exact h1 h
  · rw [if_neg (fun z => h (of_decide_eq_true z))]; exact h2 h
theorem ifb {b : Bool} {A B : Prop} (h1 : b = true → A) (h2 : b = false → B) : if b = true then A else B := by
  cases b with
  | true => rw [if_pos rfl]; exact h1 rfl
  | false => rw [if_neg Bool.false_ne_true]; exact h2 rfl
end DL
namespace DL
open PySem PySem.Spec PyProof.Rows L2
theorem rngD_some {lo : Int} {n i : Nat} {x : PyData} (h : (rngD lo n)[i]? = some x) : i < n ∧ x = .int (lo + (i : Nat)) := by
  have hi : i < n := by
    have := (List.getElem?_eq_some_iff.mp h).1
    rw [rngD_len] at this; exact this
  rw [rngD_get hi] at h
  exact ⟨hi, (Option.some.inj h).symm⟩
theorem map_some {α : Type} {f : α → PyData} {xs : List α} {i : Nat} {x : PyData} (h : (xs.map f)[i]? = some x) : ∃ a, xs[i]? = some a ∧ x = f a := by
  rw [List.getElem?_map] at h
  cases e : xs[i]? with
  | none => rw [e] at h; cases h
  | some a => rw [e] at h; exact ⟨a, rfl, (Option.some.inj h).symm⟩
theorem atI_map {α : Type} {f : α → PyData} {xs : List α} {r : Int} (h0 : 0 ≤ r) (h1 : r < xs.length) : ∃ a, a ∈ xs ∧ xs[r.toNat]? = some a ∧ atI (xs.map f) r = some (f a) := by
  obtain ⟨n, rfl⟩ := Int.eq_ofNat_of_zero_le h0
  have hn : n < xs.length := by omega
  refine ⟨xs[n], List.getElem_mem hn, List.getElem?_eq_getElem hn, atI_nat ?_⟩
  rw [List.getElem?_map, List.getElem?_eq_getElem hn]; rfl
theorem ixN_nat {n : Nat} {r : Int} (h0 : 0 ≤ r) (h1 : r < n) : ixN n r = some r.toNat := by
  unfold ixN
  rw [if_pos h0, if_pos h1]
theorem take_succ_map {α : Type} {f : α → PyData} {xs : List α} {i : Nat} {a : α} (h : xs[i]? = some a) : (xs.take (i + 1)).map f = (xs.take i).map f ++ [f a] := by
  rw [List.take_add_one, h, List.map_append]; rfl
end DL

/-! DL8: words, data that is the same. -/
namespace DL
open PySem PySem.Spec PyProof.Rows L2
/-! ### words -/
def isLow (c : Nat) : Bool := decide (97 ≤ c) && decide (c ≤ 122)
def isW (x : Str) : Bool := !decide (x = Str.ofString "") && x.cps.toList.all isLow
theorem letters_cps : (Str.ofString "abcdefghijklmnopqrstuvwxyz").cps.toList = List.range' 97 26 := by decide +kernel
theorem in_letters (c : Nat) : subS ⟨#[c]⟩ (Str.ofString "abcdefghijklmnopqrstuvwxyz") = isLow c := by
  unfold subS
  have h := PySem.StrLaws.found_one (Str.ofString "abcdefghijklmnopqrstuvwxyz") c
  rw [show ((⟨#[c]⟩ : Str)) = ⟨#[c]⟩ from rfl] at h
  rw [h, letters_cps]
  unfold isLow
  rw [Bool.eq_iff_iff]
  simp only [decide_eq_true_eq, Bool.and_eq_true, List.mem_range'_1]
  omega
theorem isW_empty : isW (Str.ofString "") = false := by
  unfold isW
  rw [decide_eq_true rfl]; rfl
theorem isW_of {x : Str} (h : x ≠ Str.ofString "") : isW x = x.cps.toList.all isLow := by
  unfold isW
  rw [decide_eq_false h]; rfl
/-! ### the same -/
open Classical in
/-- equal, kinds and all -/
noncomputable def sameB (x y : PyData) : Bool := decide (x = y)
theorem sameB_self (x : PyData) : sameB x x = true := by simp [sameB]
theorem sameB_iff {x y : PyData} : sameB x y = true ↔ x = y := by simp [sameB]
theorem sameB_ne {x y : PyData} (h : x ≠ y) : sameB x y = false := by simp [sameB, h]
theorem depth_mem : ∀ {xs : List PyData} {x : PyData}, x ∈ xs → x.depth ≤ PyData.depthAll xs
  | [], _, h => by cases h
  | y :: ys, x, h => by
    simp only [PyData.depthAll]
    rcases List.mem_cons.mp h with e | e
    · subst e; omega
    · have := depth_mem e; omega
theorem depthAll_bools : ∀ bs : List Bool, PyData.depthAll (bs.map .bool) = 0
  | [] => by simp [PyData.depthAll]
  | b :: bs => by simp [PyData.depthAll, PyData.depth, depthAll_bools bs]
theorem depthAll_le {n : Nat} : ∀ {xs : List PyData}, (∀ x ∈ xs, x.depth ≤ n) → PyData.depthAll xs ≤ n
  | [], _ => by simp [PyData.depthAll]
  | y :: ys, h => by
    simp only [PyData.depthAll]
    have h1 := h y (by simp)
    have h2 := depthAll_le (xs := ys) fun x hx => h x (List.mem_cons_of_mem _ hx)
    omega
theorem notin_false (bs : List Bool) : (!inD (.bool false) (bs.map .bool)) = bs.all id := by
  induction bs with
  | nil => rfl
  | cons b bs ih =>
    unfold inD at ih ⊢
    rw [List.map_cons, List.any_cons, List.all_cons, Bool.not_or, ih]
    cases b <;> rfl
theorem sameB_list {xs ys : List PyData} (hl : xs.length = ys.length) : sameB (.list xs) (.list ys) = ((List.range ys.length).map fun i => sameB (xs.getD i .none) (ys.getD i .none)).all id := by
  rw [Bool.eq_iff_iff, sameB_iff]
  constructor
  · intro e; injection e with e; subst e
    rw [List.all_eq_true]
    intro b hb
    obtain ⟨i, _, rfl⟩ := List.mem_map.mp hb
    exact sameB_self _
  · intro h
    rw [List.all_eq_true] at h
    have : xs = ys := by
      apply List.ext_getElem hl
      intro i h1 h2
      have := h _ (List.mem_map.mpr ⟨i, List.mem_range.mpr h2, rfl⟩)
      have e : xs.getD i .none = ys.getD i .none := sameB_iff.mp this
      rw [List.getD_eq_getElem?_getD, List.getD_eq_getElem?_getD, List.getElem?_eq_getElem h1, List.getElem?_eq_getElem h2] at e
      exact e
    rw [this]
theorem sameB_tuple (xs ys : List PyData) : sameB (.tuple xs) (.tuple ys) = sameB (.list xs) (.list ys) := by
  rw [Bool.eq_iff_iff, sameB_iff, sameB_iff]
  constructor <;> (intro e; injection e with e; rw [e])
/-- an argument as data: as it stands behind a call's norm -/
def asA : W → Option PyData
  | .d (.list _) => none
  | .d (.dict _) => none
  | .d x => some x
  | .b xs => some (.list xs)
  | _ => none
theorem atI_ok {xs : List PyData} {i : Nat} (h : i < xs.length) : atI xs ((0 : Int) + (i : Nat)) = some (xs.getD i .none) := by
  rw [Int.zero_add]
  refine atI_nat ?_
  rw [List.getD_eq_getElem?_getD, List.getElem?_eq_getElem h]; rfl
theorem argW_asA {x : PyData} (h : ∀ k, x ≠ .dict k) : asA (argW (.d x)) = some x := by
  cases x <;> first | rfl | exact absurd rfl (h _)
/-- data without dicts -/
abbrev noDict : PyData → Bool := noDct
theorem noDcts_iff : ∀ {xs : List PyData}, noDcts xs = true ↔ ∀ x ∈ xs, noDct x = true
  | [] => by simp [noDcts]
  | x :: xs => by
    rw [noDcts, Bool.and_eq_true, noDcts_iff (xs := xs)]
    simp
theorem noDict_mem {xs : List PyData} (h : noDict (.list xs) = true) {x : PyData} (hx : x ∈ xs) : noDict x = true := noDcts_iff.mp (by simpa only [noDict, noDct] using h) x hx
theorem noDict_memT {xs : List PyData} (h : noDict (.tuple xs) = true) {x : PyData} (hx : x ∈ xs) : noDict x = true := noDcts_iff.mp (by simpa only [noDict, noDct] using h) x hx
theorem noDict_ne {x : PyData} (h : noDict x = true) : ∀ k, x ≠ .dict k := by
  intro k e; subst e; simp [noDict, noDct] at h
theorem noDict_list {xs : List PyData} (h : ∀ x ∈ xs, noDict x = true) : noDict (.list xs) = true := by
  unfold noDict; rw [noDct]; exact noDcts_iff.mpr h
theorem noDict_tuple {xs : List PyData} (h : ∀ x ∈ xs, noDict x = true) : noDict (.tuple xs) = true := by
  unfold noDict; rw [noDct]; exact noDcts_iff.mpr h
theorem noDcts_map {α : Type} {f : α → PyData} (h : ∀ a, noDct (f a) = true) (xs : List α) : noDcts (xs.map f) = true := noDcts_iff.mpr fun x hx => by
  obtain ⟨a, _, rfl⟩ := List.mem_map.mp hx
  exact h a
theorem noDcts_bools (bs : List Bool) : noDcts (bs.map .bool) = true := noDcts_map (fun _ => rfl) bs
theorem noDcts_strs (bs : List Str) : noDcts (bs.map .str) = true := noDcts_map (fun _ => rfl) bs
theorem noDcts_ints (bs : List Int) : noDcts (bs.map .int) = true := noDcts_map (fun _ => rfl) bs
end DL
namespace DL
open PySem PySem.Spec PyProof.Rows L2
theorem fnok_void {P : Program} {w : World} {K : PySem.W.Frag} {mg : Str → Option Value} {base : Heap} {k : Nat} {f : Addr} {fd : FuncData} {ps : List Str} {spd : Spd} (h : ∀ ws Q E, ¬ spd ws Q E) : FnOk P w K mg base CX0 k f fd ps (toSp ⟨K, w⟩ spd) where
  len := fun _ _ _ _ z => by obtain ⟨_, _, _, _, _, _, z, _⟩ := z; exact (h _ _ _ z).elim
  run := fun _ _ _ _ _ _ _ _ _ _ _ _ _ z => by obtain ⟨_, _, _, _, _, _, z, _⟩ := z; exact (h _ _ _ z).elim
theorem sameB_int {i j : Int} : sameB (.int i) (.int j) = decide (i = j) := by
  rw [Bool.eq_iff_iff, sameB_iff, decide_eq_true_eq]; exact ⟨fun e => by injection e, fun e => by rw [e]⟩
theorem sameB_str {i j : Str} : sameB (.str i) (.str j) = decide (i = j) := by
  rw [Bool.eq_iff_iff, sameB_iff, decide_eq_true_eq]; exact ⟨fun e => by injection e, fun e => by rw [e]⟩
theorem sameB_bool {i j : Bool} : sameB (.bool i) (.bool j) = decide (i = j) := by
  rw [Bool.eq_iff_iff, sameB_iff, decide_eq_true_eq]; exact ⟨fun e => by injection e, fun e => by rw [e]⟩
end DL
namespace DL
open PySem PySem.Spec PyProof.Rows L2
/-! ### making words -/
theorem str_ext {x y : Str} (h : x.cps.toList = y.cps.toList) : x = y := by
  cases x with | mk a => cases y with | mk b =>
  have : a = b := Array.toList_inj.mp h
  rw [this]
theorem isW_iff {x : Str} : isW x = true ↔ x.cps.toList ≠ [] ∧ ∀ c ∈ x.cps.toList, isLow c = true := by
  have e0 : (Str.ofString "").cps.toList = [] := by decide
  by_cases h : x = Str.ofString ""
  · subst h
    rw [isW_empty, e0]; simp
  · rw [isW_of h, List.all_eq_true]
    exact ⟨fun z => ⟨fun e => h (str_ext (e.trans e0.symm)), z⟩, fun z => z.2⟩
theorem isLow_ok {c : Nat} (h : isLow c = true) : c < 0x110000 := by
  unfold isLow at h
  rw [Bool.and_eq_true, decide_eq_true_eq, decide_eq_true_eq] at h
  omega
theorem len_cps (x : Str) : x.length = x.cps.toList.length := (Array.length_toList ..).symm
theorem isW_append {x y : Str} (h : isW x = true) (h' : ∀ c ∈ y.cps.toList, isLow c = true) : isW (x ++ y) = true := by
  rw [isW_iff] at h ⊢
  have e : (x ++ y).cps.toList = x.cps.toList ++ y.cps.toList := Array.toList_append ..
  rw [e]
  refine ⟨fun z => h.1 (List.append_eq_nil_iff.mp z).1, fun c hc => ?_⟩
  rcases List.mem_append.mp hc with z | z
  · exact h.2 c z
  · exact h' c z
theorem letter_at {r : Int} (h0 : 0 ≤ r) (h1 : r < 26) : ∃ c, atI (Str.ofString "abcdefghijklmnopqrstuvwxyz").cps.toList r = some c ∧ isLow c = true := by
  obtain ⟨n, rfl⟩ := Int.eq_ofNat_of_zero_le h0
  refine ⟨97 + n, ?_, ?_⟩
  · rw [letters_cps]
    refine atI_nat ?_
    rw [List.getElem?_range' (by omega)]; simp
  · unfold isLow
    rw [Bool.and_eq_true, decide_eq_true_eq, decide_eq_true_eq]
    omega
theorem join0_cps : ∀ (cs : List Nat), (Str.join (Str.ofString "") (cs.map fun c => (⟨#[c]⟩ : Str))).cps.toList = cs
  | [] => rfl
  | [c] => rfl
  | c :: d :: r => by
    have ih := join0_cps (d :: r)
    show (((⟨#[c]⟩ : Str) ++ Str.ofString "" ++ Str.join (Str.ofString "") ((d :: r).map fun c => (⟨#[c]⟩ : Str))).cps.toList) = _
    show ((#[c] ++ (Str.ofString "").cps) ++ (Str.join (Str.ofString "") ((d :: r).map fun c => (⟨#[c]⟩ : Str))).cps).toList = _
    rw [Array.toList_append, Array.toList_append, ih]; rfl
theorem join0 {cs : List Nat} (h : cs ≠ []) (hl : ∀ c ∈ cs, isLow c = true) : isW (Txt.join (Str.ofString "") (cs.map fun c => (⟨#[c]⟩ : Str))) = true ∧ (Txt.join (Str.ofString "") (cs.map fun c => (⟨#[c]⟩ : Str))).length = cs.length := by
  rw [TL.join_eq, isW_iff, len_cps, join0_cps]
  exact ⟨⟨h, hl⟩, rfl⟩
theorem sum_ones : ∀ (cs : List Nat), ((cs.map fun c => (⟨#[c]⟩ : Str)).map (·.length)).sum = cs.length
  | [] => rfl
  | c :: r => by
    rw [List.map_cons, List.map_cons, List.sum_cons, sum_ones r, List.length_cons]
    show 1 + _ = _
    omega
theorem z_cps (n : Int) : (Txt.mul (Str.ofString "z") n).cps.toList = List.replicate n.toNat 122 := by
  rw [show Str.ofString "z" = ⟨#[122]⟩ from by decide]
  exact PyProof.Rows.mul_one_list 122 n
theorem z_word {n : Int} (h : 1 ≤ n) : isW (Txt.mul (Str.ofString "z") n) = true ∧ (Txt.mul (Str.ofString "z") n).length = n.toNat := by
  rw [isW_iff, len_cps, z_cps]
  refine ⟨⟨fun e => ?_, fun c hc => ?_⟩, List.length_replicate ..⟩
  · have := congrArg List.length e
    rw [List.length_replicate] at this
    simp at this; omega
  · rw [(List.mem_replicate.mp hc).2]; decide
theorem eqv_str {x y : Str} : PyData.eqv (.str x) (.str y) = decide (x = y) := rfl
theorem inD_str {x : Str} : ∀ {ys : List Str}, inD (.str x) (ys.map .str) = decide (x ∈ ys)
  | [] => by rw [decide_eq_false (by intro h; cases h)]; rfl
  | y :: r => by
    have ih := inD_str (x := x) (ys := r)
    unfold inD at ih ⊢
    rw [List.map_cons, List.any_cons, ih, eqv_str, Bool.eq_iff_iff, Bool.or_eq_true, decide_eq_true_eq, decide_eq_true_eq, decide_eq_true_eq, List.mem_cons]
    exact ⟨fun h => h.elim (fun e => .inl e.symm) .inr, fun h => h.elim (fun e => .inl e.symm) .inr⟩
theorem depthAll_strs : ∀ bs : List Str, PyData.depthAll (bs.map .str) = 0
  | [] => by simp [PyData.depthAll]
  | b :: bs => by simp [PyData.depthAll, PyData.depth, depthAll_strs bs]
theorem depthAll_ints : ∀ bs : List Int, PyData.depthAll (bs.map .int) = 0
  | [] => by simp [PyData.depthAll]
  | b :: bs => by simp [PyData.depthAll, PyData.depth, depthAll_ints bs]
theorem nodup_snoc {α : Type} {xs : List α} {x : α} (h : xs.Nodup) (hx : x ∉ xs) : (xs ++ [x]).Nodup := by
  rw [List.nodup_append]
  refine ⟨h, by simp, fun a ha b hb e => ?_⟩
  have : b = x := by simpa using hb
  subst this; subst e; exact hx ha
end DL
namespace DL
open PySem PySem.Spec PyProof.Rows L2
theorem noDict_bool (b : Bool) : noDict (.bool b) = true := rfl
theorem noDict_int (b : Int) : noDict (.int b) = true := rfl
theorem noDict_str (b : Str) : noDict (.str b) = true := rfl
theorem noDict_none : noDict .none = true := rfl
theorem depth_bool (b : Bool) : (PyData.bool b).depth = 0 := by simp [PyData.depth]
/-- the reading of same(bool, bool) -/
theorem same_bool {b c : Bool} {n : Nat} {k : PyData → Prop} (h : k (.bool (sameB (.bool b) (.bool c)))) : ∃ x y, some (PyData.bool b) = some x ∧ some (PyData.bool c) = some y ∧ noDict x = true ∧ noDict y = true ∧ y.depth < n + 1 ∧ k (.bool (sameB x y)) :=
  ⟨_, _, rfl, rfl, noDict_bool _, noDict_bool _, by rw [depth_bool]; omega, h⟩
end DL
namespace DL
open PySem PySem.Spec PyProof.Rows L2
def isV : PyData → Bool
  | .str x => isW x
  | _ => true
def isIS : PyData → Bool
  | .str _ => true
  | .int _ => true
  | _ => false
end DL

/-! DL9: sorted texts, xs.pop(i). -/
namespace DL
open PySem PySem.Spec PyProof.Rows L2
section
variable {K : KW} {G H : Hp}
theorem IsAll.ofStrs : ∀ {ys : List Str}, (∀ y ∈ ys, okS y) → IsAll K G (ys.map V.str) (ys.map .str)
  | [], _ => .nil
  | y :: ys, h => .cons (.str y (h y (by simp))) (IsAll.ofStrs fun z hz => h z (List.mem_cons_of_mem _ hz))
def gSort (ws : List W) (Q : W → Prop) : Prop := match ws with
  | [w] => ∃ (xs : List PyData) (ys : List Str), asL w = some xs ∧ xs = ys.map .str ∧ ys.length < 64 ∧ ∀ zs : List Str, zs.Perm ys → sortedS zs = true → Q (.l (zs.map .str))
  | _ => False
theorem cd_sort : CallD K (rSortedS K) gSort := by
  intro G0 H0 Hx G H σ ρ vs ws Q' Q E r q k
  unfold gSort at q
  split at q
  · obtain ⟨v, rfl, r1⟩ := r.one
    obtain ⟨xs, ys, e1, rfl, l, q⟩ := q
    obtain ⟨p, us, rfl, h1, z, a⟩ := r1.asL E e1
    have oks := a.strOk
    rw [a.strs] at h1
    refine ⟨p, ys, rfl, h1, l, fun zs p hp hs hl => k _ (.l (zs.map .str)) _ _ (Up.newH E.gh hl) ⟨p, zs.map V.str, rfl, hl, E.gh.back hl, trivial, upd_same, ?_, IsAll.ofStrs fun y hy => oks y (hp.mem_iff.mp hy)⟩ (q zs hp hs)⟩
    rw [List.length_map, hp.length_eq, sizeLine_eq]; omega
  · exact q.elim
end
end DL
namespace DL
open PySem PySem.Spec PyProof.Rows L2
/-! ### schemas and facts as data -/
structure Tb where
  n : Str
  k : Nat
  r : Nat
def tbD (t : Tb) : PyData := .tuple [.str t.n, .int t.k, .int t.r]
def findT (ts : List Tb) (n : Str) : Option Tb := ts.find? fun t => decide (t.n = n)
def tabD : Option Tb → PyData
  | none => .none
  | some t => tbD t
def okV (y : PyData) : Prop := isIS y = true ∧ isV y = true
structure SchOk (ts : List Tb) : Prop where
  few : ts.length ≤ 20
  nd : (ts.map Tb.n).Nodup
  srt : sortedS (ts.map Tb.n) = true
  wd : ∀ t ∈ ts, isW t.n = true ∧ t.k + t.r ≤ 8
structure Fc where
  n : Str
  row : List PyData
def fD (f : Fc) : PyData := .tuple [.str f.n, .tuple f.row]
/-- the fact fits the schema -/
def fits (ts : List Tb) (f : Fc) : Prop := (∃ t, findT ts f.n = some t ∧ f.row.length = t.k + t.r) ∧ ∀ y ∈ f.row, okV y
theorem findT_mem {ts : List Tb} (nd : (ts.map Tb.n).Nodup) {t : Tb} (h : t ∈ ts) : findT ts t.n = some t := by
  induction ts with
  | nil => cases h
  | cons u us ih =>
    unfold findT at ih ⊢
    rw [List.map_cons, List.nodup_cons] at nd
    rw [List.find?_cons]
    rcases List.mem_cons.mp h with e | e
    · subst e; simp
    · have : u.n ≠ t.n := fun z => nd.1 (z ▸ List.mem_map.mpr ⟨t, e, rfl⟩)
      rw [decide_eq_false this]
      exact ih nd.2 e
theorem findT_some {ts : List Tb} {n : Str} {t : Tb} (h : findT ts n = some t) : t ∈ ts ∧ t.n = n := by
  unfold findT at h
  exact ⟨List.mem_of_find?_eq_some h, by simpa using List.find?_some h⟩
theorem noDict_okV {y : PyData} (h : okV y) : noDict y = true := by
  cases y with
  | int i => exact noDict_int i
  | str i => exact noDict_str i
  | _ => exact absurd h.1 (by simp [isIS])
theorem depth_okV {y : PyData} (h : okV y) : y.depth = 0 := by
  cases y with
  | int i => simp [PyData.depth]
  | str i => simp [PyData.depth]
  | _ => exact absurd h.1 (by simp [isIS])
theorem noDict_tbD (t : Tb) : noDict (tbD t) = true := noDict_tuple fun x hx => by
  simp at hx
  rcases hx with e | e | e <;> subst e <;> first | exact noDict_str _ | exact noDict_int _
theorem depth_tbD (t : Tb) : (tbD t).depth = 1 := by
  simp [tbD, PyData.depth, PyData.depthAll]
theorem noDict_tabD (t : Option Tb) : noDict (tabD t) = true := by
  cases t with
  | none => exact noDict_none
  | some t => exact noDict_tbD t
theorem depth_tabD (t : Option Tb) : (tabD t).depth ≤ 1 := by
  cases t with
  | none => simp [tabD, PyData.depth]
  | some t => exact Nat.le_of_eq (depth_tbD t)
theorem cutD_take (xs : List PyData) (k : Nat) : DL.cutD xs none (some (k : Int)) = xs.take k := by
  unfold DL.cutD
  rw [HT.sIx_nat, HT.sIx_none, Nat.sub_zero, List.drop_zero]
  exact (List.take_eq_take_min ..).symm
theorem cutD_drop (xs : List PyData) (k : Nat) : DL.cutD xs (some (k : Int)) none = xs.drop k := by
  unfold DL.cutD
  rw [HT.sIx_nat, HT.sIx_none]
  by_cases h : k ≤ xs.length
  · rw [Nat.min_eq_left h, List.take_of_length_le (by rw [List.length_drop]; omega)]
  · rw [Nat.min_eq_right (by omega), List.drop_of_length_le (Nat.le_refl _), List.drop_of_length_le (by omega), List.take_nil]
theorem filter_pos {α : Type} {xs : List α} {p : α → Bool} {i : Nat} {a : α} (h : xs[i]? = some a) (hp : p a = true) : (xs.take (i + 1)).filter p = (xs.take i).filter p ++ [a] := by
  rw [List.take_add_one, h, List.filter_append]
  simp [hp]
theorem filter_neg {α : Type} {xs : List α} {p : α → Bool} {i : Nat} {a : α} (h : xs[i]? = some a) (hp : p a = false) : (xs.take (i + 1)).filter p = (xs.take i).filter p := by
  rw [List.take_add_one, h, List.filter_append]
  simp [hp]
theorem findT_at {ts : List Tb} {n : Str} {i : Nat} {t : Tb} (h : ∀ t ∈ ts.take i, t.n ≠ n) (ht : ts[i]? = some t) (e : t.n = n) : findT ts n = some t := by
  induction ts generalizing i with
  | nil => cases ht
  | cons u us ih =>
    unfold findT at ih ⊢
    rw [List.find?_cons]
    cases i with
    | zero =>
      have : u = t := by simpa using ht
      subst this
      rw [decide_eq_true e]
    | succ i =>
      have h0 : u.n ≠ n := h u (by simp)
      rw [decide_eq_false h0]
      exact ih (i := i) (fun t m => h t (by simp [m])) (by simpa using ht)
theorem findT_none {ts : List Tb} {n : Str} (h : ∀ t ∈ ts, t.n ≠ n) : findT ts n = none := by
  unfold findT
  rw [List.find?_eq_none]
  intro t m
  simpa using h t m
end DL
/-! ### xs.pop(i), dropped -/
namespace DL
open PySem PySem.Spec PyProof.Rows L2
section
variable {K : KW} {X : Cx} {Z : Wish} {a e : Expr} {pos : Pos} {te : TEd}
def sPopAt (j : Nat) (u : TAd) : TSd := fun D ρ => onL ρ j fun xs => u ρ fun ws => match ws with
  | [.d (.int i)] => 0 ≤ i ∧ i < xs.length ∧ D.nx (ρ.set j (some (.l (xs.eraseIdx i.toNat))))
  | _ => False
theorem IsAll.eraseAt {G : Hp} : ∀ {vs : List V} {ds : List PyData} (i : Nat), IsAll K G vs ds → IsAll K G (vs.eraseIdx i) (ds.eraseIdx i)
  | _, _, _, .nil => .nil
  | _, _, 0, .cons _ b => b
  | _, _, i + 1, .cons a b => .cons a (IsAll.eraseAt i b)
theorem snd_popAt {i : Nat} {us : TA} {u : TAd} (s1 : SndA K Z us u) : SndS K Z (tDrop (tBM K "list" rPopAt (tVar i) us)) (sPopAt i u) := by
  intro G0 H0 G H σ ρ D' D E gd h n r b c
  obtain ⟨xs, e1, h⟩ := onL_of h
  obtain ⟨p, vs, hp, hv, z, al⟩ := own_at E e1
  refine ⟨.ref p, hp, .inl ⟨rfl, vs, SqL.of hv⟩, ?_⟩
  refine s1 G0 H0 G H σ ρ _ _ E gd h fun as ws G1 H1 u1 r1 q1 => ?_
  split at q1
  · rename_i j
    obtain ⟨v1, rfl, ra⟩ := r1.one
    cases ra
    obtain ⟨z0, z1, q⟩ := q1
    have uf := frzAll_up u1
    have hl := al.len
    have szl : (sizeLine : Nat) = 16777216 := sizeLine_eq
    have hj : j.toNat < vs.length := by omega
    refine ⟨p, vs, j, j.toNat, vs[j.toNat], rfl, rfl, u1.h _ _ hv, by omega, by omega, ?_, List.getElem?_eq_getElem hj, n _ _ _ _ ((E.to uf).mut (gx_some e1) hp (Nat.le_trans (List.length_eraseIdx_le ..) z) ?_) q⟩
    · unfold seqIndex?
      have e0 : ¬ j < 0 := by omega
      simp only [if_neg e0]
      have e2 : (0 ≤ j) := z0
      have e3 : j < (vs.length : Int) := by omega
      simp [e2, e3]
    · exact (al.up uf.g).eraseAt _
  · exact q1.elim
theorem ds_popAt (j : Nat) {u : TAd} {x : Str} {pn apos cpos : Pos} (hu : PDA X Z [a] u) (hN : X.N[j]? = some x := by rfl) (hv : Vis X.env.scope x := by first | exact Or.inl rfl | exact Or.inr (Or.inl rfl) | exact Or.inr (Or.inr rfl)) (hd : (x == ("__debug__" : Str)) = false := by decide) (hcd : (x == ("__classdict__" : Str)) = false := by decide)
    (hbase : attributeBase (.Name x pn) "pop" X.env (eval (.Name x pn) X.env) = eval (.Name x pn) X.env := by rfl)
    (hfew : ((backTo cpos (starEach [a] X.env)).all (fun x => !x.1) && (backToKw cpos (keywordEach [] X.env)).all (fun x => x.1.isSome) && decide ([a].length + ([] : List Keyword).length + (if ([] : List Keyword).isEmpty then 0 else 1) < 30)) = true := by rfl)
    (hline : (apos.endLine == cpos.line) = true := by rfl) (hst : starEach [a] X.env = (false, eval a X.env) :: starEach [] X.env := by rfl) (hplain : (backTo cpos (starEach [] X.env)).any (·.1) = false := by rfl)
    (hs : swapsWith (.Call (.Attribute (.Name x pn) "pop" apos) [a] [] cpos) none pos.line X.env = pure false := by rfl) :
    PDS X Z (.Expr (.Call (.Attribute (.Name x pn) "pop" apos) [a] [] cpos) pos) (sPopAt j u) := by
  obtain ⟨t1, p1, s1⟩ := hu
  exact ⟨_, ps_expr (pe_bm PySem.F.plainAttrs_list PySem.F.slot_list_pop PySem.F.type_list_pop mt_popAt (pe_var hN hv hd hcd) p1 hbase hfew hline hst hplain) hs, snd_popAt s1⟩
end
end DL
namespace DL
open PySem PySem.Spec PyProof.Rows L2
/-- is this a fact? -/
def isF (ts : List Tb) (n : Str) (row : List PyData) : Bool := match findT ts n with
  | none => false
  | some t => decide (row.length = t.k + t.r) && row.all isV
theorem all_snoc {P : PyData → Prop} {xs : List PyData} {x : PyData} (h : ∀ y ∈ xs, P y) (hx : P x) : ∀ y ∈ xs ++ [x], P y := fun y hy => (List.mem_append.mp hy).elim (h y) fun e => by
  have e : y = x := by simpa using e
  subst e; exact hx
end DL

/-! DL10: sorted with a key whose answers may hold lists. -/
namespace KR
open PySem PySem.Calls PyProof.Rows PySem.W
section
variable {prog : Program} {w : World} {A : Around} {E : Value → Shared → Prop} {s : Shared} {a kS : Addr} {vs : List Value} {e1 : Nat} {P : PySem.Fin → Shared → Prop} {C : (Value → Option (List (Int ⊕ List Nat))) → List Value → Prop} {J : Shared → List Value → Prop}
/-- rows of signs as keys -/
def kOf (ko : Value → Option (List (Int ⊕ List Nat))) : PyProof.Rows.KeyKind where
  toKeyOrd := listOrd itemOrd
  keyOf := ko
  dflt := ([] : List (Int ⊕ List Nat))
theorem gone (h : Heap) (c : Addr) : (h.update c fun o => { o with data := .freed }).get? c = none := by
  cases h with | mk objs l =>
  unfold Heap.update Heap.get?
  simp only [Array.getElem?_modify]
  cases objs[c]? <;> simp
/-- the list of keys, whatever it holds -/
def KeyList (h : Heap) (c : Addr) : Prop := ∃ xs n, h.get? c = some (seqObj "list" xs n)
/-- the list under sort, empty -/
def Bare (h : Heap) (c : Addr) (n : Nat) : Prop := h.get? c = some (seqObj "list" #[] n)
theorem rest {f : Value} (nk : s.heap.get? kS = some (seqObj "list" #[] 0)) (na : Bare s.heap a e1) (hka : kS ≠ a) (hZ : vs.length ≤ sizeLine) (j0 : J s [])
    (upd : ∀ s1 g ks, J s1 ks → Heap.SameBut kS s1.heap g → KeyList g kS → J { s1 with heap := g } ks)
    (turn : ∀ (i : Nat) (v : Value) (ks : List Value) (s1 : Shared), vs[i]? = some v → ks.length = i → J s1 ks → KeyList s1.heap kS → Bare s1.heap a e1 →
      wpAny (model prog w) A (call f [v]) (fun r s2 => J s2 (ks ++ [r]) ∧ s2.heap.get? kS = s1.heap.get? kS ∧ s2.heap.get? a = s1.heap.get? a) (fun _ _ => False) s1)
    (fin : ∀ s1 ks, J s1 ks → ks.length = vs.length → ∃ ko, SortsAt prog w A s1 (kOf ko) ks ∧ C ko ks)
    (done : ∀ s1 ks h' tk out c, J s1 ks → ks.length = vs.length → (∀ b o, b ≠ a → b ≠ kS → s1.heap.get? b = some o → h'.get? b = some o) → h'.get? a = some (seqObj "list" (List.toArray out) c) → (∃ ko ks, C ko ks ∧ ks.length = vs.length ∧ out = sortVals (kOf ko) false ks vs) →
      P (.done (.ret .none)) { s1 with heap := h', toks := tk }) : wpAny (model prog w) A (ksk_rest a f false vs.toArray e1 (.ref kS)) P E s := by
  unfold ksk_rest
  refine wpAny_bind (wpAny_rule ?_)
  rw [List.forIn_toArray]
  refine wpAny_bind (ksk_fold (fun i s' => ∃ kA n, s'.heap.get? kS = some (seqObj "list" kA n) ∧ Bare s'.heap a e1 ∧ kA.size = i ∧ J s' kA.toList) vs 0 s ⟨#[], 0, nk, na, rfl, j0⟩ (fun j x s' hx ⟨kA, n, g1, g2, g3, g4⟩ => ?_) fun s' ⟨kA, n, g1, g2, g3, g4⟩ => ?_)
  · rw [Nat.zero_add] at g3 ⊢
    have hj : j < vs.length := (List.getElem?_eq_some_iff.mp hx).1
    refine wpAny_bind (wpAny_attempt (wpAny_mono (turn j x kA.toList s' hx (by rw [Array.length_toList]; exact g3) g4 ⟨kA, n, g1⟩ g2) (fun r s2 ⟨q1, q2, q3⟩ => ?_) fun _ _ z => z.elim))
    try dsimp only
    have m1 : s2.heap.get? kS = some (seqObj "list" kA n) := q2.trans g1
    have m2 : s2.heap.get? a = some (seqObj "list" #[] e1) := q3.trans g2
    have sb := Heap.SameBut.update s2.heap kS (Obj.mapSeq (·.push r))
    obtain ⟨c2, m3⟩ : ∃ c2, (s2.heap.update kS (Obj.mapSeq (·.push r))).get? kS = some (seqObj "list" (kA.push r) c2) := ⟨_, get?_update_seq m1 (·.push r)⟩
    refine wpAny_bind (listUpdate_at m1 rfl ?_ (by omega) (by rw [Array.size_push]; omega))
    refine wpAny_pure ⟨rfl, kA.push r, c2, m3, (sb.2 a hka.symm).trans m2, by rw [Array.size_push, g3], ?_⟩
    rw [Array.toList_push]
    exact upd s2 _ _ q1 sb ⟨_, _, m3⟩
  · rw [Nat.zero_add] at g3
    have kl : kA.toList.length = vs.length := by rw [Array.length_toList]; exact g3
    obtain ⟨ko, S, hC⟩ := fin s' kA.toList g4 kl
    try dsimp only
    refine wpAny_bind (listItems_at g1 rfl ?_)
    refine keyH_end (κ := kOf ko) (h₁ := s'.heap.update kS fun o => { o with data := .freed }) (fun b o hb q => ?_) (gone _ _) g1 g2 hka S g3 hZ fun h3 tk3 c k3 n3 => ?_
    · by_cases hbk : b = kS
      · rw [hbk, gone] at q; cases q
      · rw [(Heap.SameBut.update s'.heap kS fun o => { o with data := .freed }).2 b hbk] at q; exact q
    · refine done s' _ h3 tk3 _ c g4 kl (fun b o hb hbk q => k3 b o hb ?_) n3 ⟨ko, kA.toList, hC, kl, rfl⟩
      rw [(Heap.SameBut.update s'.heap kS fun o => { o with data := .freed }).2 b hbk]; exact q
end
end KR
namespace KR
open PySem PySem.Calls PyProof.Rows PySem.W
section
variable {prog : Program} {w : World} {A : Around} {E : Value → Shared → Prop} {s : Shared} {a : Addr} {vs : List Value} {P : PySem.Fin → Shared → Prop} {C : (Value → Option (List (Int ⊕ List Nat))) → List Value → Prop} {J : Addr → Shared → List Value → Prop}
theorem tree {f : Value} {n : Nat} (ho : s.heap.get? a = some (seqObj "list" vs.toArray n)) (hZ : vs.length ≤ sizeLine)
    (j0 : ∀ c g, s.heap.objs.size ≤ c → KeepsBut a s.heap g → KeyList g c → J c { s with heap := g } [])
    (upd : ∀ c s1 g ks, s.heap.objs.size ≤ c → J c s1 ks → Heap.SameBut c s1.heap g → KeyList g c → J c { s1 with heap := g } ks)
    (turn : ∀ (c : Addr) (e1 : Nat) (i : Nat) (v : Value) (ks : List Value) (s1 : Shared), s.heap.objs.size ≤ c → vs[i]? = some v → ks.length = i → J c s1 ks → KeyList s1.heap c → Bare s1.heap a e1 →
      wpAny (model prog w) A (call f [v]) (fun r s2 => J c s2 (ks ++ [r]) ∧ s2.heap.get? c = s1.heap.get? c ∧ s2.heap.get? a = s1.heap.get? a) (fun _ _ => False) s1)
    (fin : ∀ c s1 ks, J c s1 ks → ks.length = vs.length → ∃ ko, SortsAt prog w A s1 (kOf ko) ks ∧ C ko ks)
    (done : ∀ x s1 ks h' tk out c, s.heap.objs.size ≤ x → J x s1 ks → ks.length = vs.length → (∀ b o, b ≠ a → b ≠ x → s1.heap.get? b = some o → h'.get? b = some o) → h'.get? a = some (seqObj "list" (List.toArray out) c) → (∃ ko ks, C ko ks ∧ ks.length = vs.length ∧ out = sortVals (kOf ko) false ks vs) →
      P (.done (.ret .none)) { s1 with heap := h', toks := tk }) : wpAny (model prog w) A (ksk_tree a f false) P E s := by
  have lt : a < s.heap.objs.size := Heap.lt_size ho
  obtain ⟨e1, m1⟩ : ∃ e1, (s.heap.update a (Obj.mapSeq fun _ => (#[] : Array Value))).get? a = some (seqObj "list" #[] e1) := ⟨_, get?_update_seq ho fun _ => #[]⟩
  have sz : ((s.heap.update a (Obj.mapSeq fun _ => (#[] : Array Value))).push (seqObj "tuple" vs.toArray 0)).objs.size = s.heap.objs.size + 1 := by rw [size_push', Heap.size_update]
  have fr : s.heap.objs.size ≤ s.heap.objs.size + 1 := Nat.le_succ _
  have at1 : (sortingHeap s.heap a vs).get? (s.heap.objs.size + 1) = some (seqObj "list" #[] 0) := by
    rw [← sz]; exact Heap.get?_push_size _ rfl
  unfold ksk_tree
  refine wpAny_bind (listItems_at ho rfl ?_)
  refine wpAny_bind (listUpdate_at ho rfl ?_ (by rw [List.size_toArray]; exact hZ) (Nat.zero_le _))
  refine wpAny_bind (seqEpoch_at m1 rfl (wpAny_bind (wpAny_newTuple (wpAny_bind (wpAny_newList (wpAny_holding ?_) (Nat.zero_le _))) (by show vs.length ≤ _; exact hZ))))
  rw [show Value.ref ((s.heap.update a (Obj.mapSeq fun _ => (#[] : Array Value))).push (seqObj "tuple" vs.toArray 0)).objs.size = .ref (s.heap.objs.size + 1) from by rw [sz]]
  exact rest (C := C) (J := J (s.heap.objs.size + 1)) (s := { s with heap := sortingHeap s.heap a vs }) at1 (Heap.get?_push_of_some _ (Heap.get?_push_of_some _ m1)) (Nat.ne_of_gt (Nat.lt_succ_of_lt lt)) hZ (j0 _ _ fr (fun b o hb q => sortingHeap_old hb q) ⟨_, _, at1⟩)
    (fun s1 g ks => upd _ s1 g ks fr) (fun i v ks s1 hx hl hj hk hb => turn _ e1 i v ks s1 fr hx hl hj hk hb) (fun s1 ks => fin _ s1 ks) fun s1 ks h' tk out c => done _ s1 ks h' tk out c fr
end
section
variable {prog : Program} {w : World} {A : Around} {E : Value → Shared → Prop} {s : Shared} {β : Type} {vs : List Value} {bs : List β} {R : Value → β → Prop} {J : Addr → Addr → Shared → List Value → Prop}
/-- sorted(xs, key=f) -/
theorem keyed {l : Addr} {f : Value} {kw : List (Str × Value)} {Q : Value → Shared → Prop} (k : β → PyData) (hl : s.heap.IsList l vs.toArray) (e : EachIs R vs bs) (hL : bs.length ≤ sizeLine)
    (ha1 : argsOk "sorted" ⟨[.ref l], kw⟩) (ha2 : ∀ x, argsOk "list.sort" ⟨[.ref x], kw⟩) (ht : ∀ x, Builtin.«list.sort» ⟨[.ref x], kw⟩ = ksk_tree x f false)
    (j0 : ∀ a c g, s.heap.objs.size ≤ a → s.heap.objs.size ≤ c → a ≠ c → (∀ b o, s.heap.get? b = some o → g.get? b = some o) → KeyList g c → J a c { s with heap := g } [])
    (upd : ∀ a c s1 g ks, J a c s1 ks → Heap.SameBut c s1.heap g → KeyList g c → J a c { s1 with heap := g } ks)
    (turn : ∀ (a c : Addr) (e1 : Nat) (i : Nat) (v : Value) (x : β) (ks : List Value) (s1 : Shared), vs[i]? = some v → bs[i]? = some x → R v x → ks.length = i → J a c s1 ks → KeyList s1.heap c → Bare s1.heap a e1 →
      wpAny (model prog w) A.in1.in1 (call f [v]) (fun r s2 => J a c s2 (ks ++ [r]) ∧ s2.heap.get? c = s1.heap.get? c ∧ s2.heap.get? a = s1.heap.get? a) (fun _ _ => False) s1)
    (fin : ∀ a c s1 ks, J a c s1 ks → ks.length = vs.length → ∃ ko, SortsAt prog w A.in1.in1 s1 (kOf ko) ks ∧ EachIs (fun v b => ko v = some (keyToks (k b))) ks bs)
    (done : ∀ a x s1 ks h' tk out c, s.heap.objs.size ≤ a → J a x s1 ks → (∀ b o, b ≠ a → b ≠ x → s1.heap.get? b = some o → h'.get? b = some o) → h'.get? a = some (seqObj "list" (List.toArray out) c) → out.length = bs.length → EachIs R out (bs.mergeSort (dataLe false k)) →
      Q (.ref a) { s1 with heap := h', toks := tk }) : wpAny (model prog w) A (call (.builtin "sorted") [.ref l] kw) Q E s := by
  have vl : vs.length = bs.length := e.length
  have f1 : s.heap.get? (s.heap.objs.size + 1) = none := Heap.get?_none_of_le (Nat.le_succ _)
  have l1 : s.heap.objs.size + 1 < (copyHeap s.heap vs).objs.size := Heap.lt_size (copyHeap_at s.heap vs)
  have old : ∀ {c : Addr}, (copyHeap s.heap vs).objs.size ≤ c → s.heap.objs.size ≤ c := fun {c} q => by omega
  have ne : ∀ {c : Addr}, (copyHeap s.heap vs).objs.size ≤ c → s.heap.objs.size + 1 ≠ c := fun {c} q z => by rw [← z] at q; omega
  refine sorted_of_sort hl (by omega) ha1 ha2 fun E' => ?_
  rw [ht]
  refine tree (J := fun c s1 ks => J (s.heap.objs.size + 1) c s1 ks) (C := fun ko ks => EachIs (fun v b => ko v = some (keyToks (k b))) ks bs) (s := { s with heap := copyHeap s.heap vs }) (copyHeap_at s.heap vs) (by omega)
    (fun c g q kp kl => j0 _ c g (Nat.le_succ _) (old q) (ne q) (fun b o z => kp b o (fun y => by rw [y, f1] at z; cases z) (copyHeap_old z)) kl) (fun c s1 g ks _ => upd _ c s1 g ks)
    (fun c e1 i v ks s1 _ hx hi hj hkl hb => ?_) (fun c s1 ks => fin _ c s1 ks) fun x s1 ks h' tk out c _ hj hkl kp ha ⟨kk, k2, hC, kl2, hout⟩ => ⟨rfl, ?_⟩
  · obtain ⟨y, hy⟩ : ∃ y, bs[i]? = some y := ⟨_, List.getElem?_eq_getElem (by have := (List.getElem?_eq_some_iff.mp hx).1; omega)⟩
    exact turn _ c e1 i v y ks s1 hx hy (e.zip (v, y) (List.mem_of_getElem? (i := i) (by rw [List.getElem?_zip_eq_some]; exact ⟨hx, hy⟩))) hi hj hkl hb
  · subst hout
    exact done _ x s1 ks h' tk _ c (Nat.le_succ _) hj kp ha ((sortVals_length false kl2).trans vl) (sortVals_each (κ := kOf kk) (fun b => keyToks (k b)) e hC)
end
end KR

/-! DL11: sorted(xs, key=f), f a def with a promise. -/
namespace DL
open PySem PySem.Spec PyProof.Rows L2
section
variable {X : Cx} {pins : List (Addr × Obj)} {σ : L2.St} {G H : Hp} {s : Shared}
mutual
theorem Is.reads (I : Inv X pins σ H s) (g : Ex G H) : ∀ (d : PyData) (v : V) (u : Value), noDct d = true → Is (kw X) G v d → RelV v u → ∃ as, Reads s.heap u d as
  | .none, _, u, _, h, r => by cases h; obtain rfl : u = .none := r; exact ⟨_, .none⟩
  | .bool b, _, u, _, h, r => by cases h; obtain rfl : u = .bool b := r; exact ⟨_, .bool b⟩
  | .int i, _, u, _, h, r => by cases h; obtain ⟨t, rfl⟩ := r; exact ⟨_, .int i t⟩
  | .str x, _, u, _, h, r => by cases h; obtain ⟨t, rfl⟩ := r; exact ⟨_, .str x t⟩
  | .list ds, _, u, n, h, r => by
    cases h with | @lst a xs _ hs z ha =>
    obtain rfl : u = .ref a := r
    obtain ⟨its, rv, ⟨o, n2, e, c, _, d⟩, _⟩ := I.list (SqL.of (K := X.K) (g _ _ hs))
    obtain ⟨as, ra⟩ := IsAll.reads I g ds xs its (by simpa only [noDct] using n) ha rv
    exact ⟨_, .list e c d (by simpa using ra)⟩
  | .tuple ds, _, u, n, h, r => by
    cases h with | @tup a xs _ hs hdz z ha =>
    obtain rfl : u = .ref a := r
    obtain ⟨its, rv, ⟨o, e, c, n2, d⟩, _⟩ := I.tuple (g.sqT hs)
    obtain ⟨as, ra⟩ := IsAll.reads I g ds xs its (by simpa only [noDct] using n) ha rv
    exact ⟨_, .tuple e c d (by simpa using ra)⟩
  | .dict _, _, _, n, _, _ => by simp [noDct] at n
theorem IsAll.reads (I : Inv X pins σ H s) (g : Ex G H) : ∀ (ds : List PyData) (vs : List V) (us : List Value), noDcts ds = true → IsAll (kw X) G vs ds → Vals vs us → ∃ as, ReadsAll s.heap us ds as
  | [], _, us, _, h, r => by cases h; cases r; exact ⟨_, .nil⟩
  | d :: ds, _, us, n, h, r => by
    rw [noDcts, Bool.and_eq_true] at n
    cases h with | cons h1 h2 =>
    cases r with | cons r1 r2 =>
    obtain ⟨as, a1⟩ := Is.reads I g d _ _ n.1 h1 r1
    obtain ⟨bs, a2⟩ := IsAll.reads I g ds _ _ n.2 h2 r2
    exact ⟨_, .cons a1 a2⟩
end
theorem IsAll.each (I : Inv X pins σ H s) (g : Ex G H) : ∀ {ds : List PyData} {vs : List V} {us : List Value}, noDcts ds = true → IsAll (kw X) G vs ds → Vals vs us → PySem.W.EachIs (fun u d => ∃ as, Reads s.heap u d as) us ds
  | _, _, _, _, .nil, .nil => .nil
  | _, _, _, n, .cons h1 h2, .cons r1 r2 => by
    rw [noDcts, Bool.and_eq_true] at n
    exact .cons (Is.reads I g _ _ _ n.1 h1 r1) (IsAll.each I g n.2 h2 r2)
/-- an item of the list: what stands for it -/
def ItemIs (K : KW) (G : Hp) (u : Value) (d : PyData) : Prop := ∃ v, RelV v u ∧ Is K G v d
theorem IsAll.items {K : KW} : ∀ {ds : List PyData} {vs : List V} {us : List Value}, IsAll K G vs ds → Vals vs us → PySem.W.EachIs (ItemIs K G) us ds
  | _, _, _, .nil, .nil => .nil
  | _, _, _, .cons h1 h2, .cons r1 r2 => .cons ⟨_, r1, h1⟩ (IsAll.items h2 r2)
theorem items_vals {K : KW} : ∀ {ds : List PyData} {us : List Value}, PySem.W.EachIs (ItemIs K G) us ds → ∃ vs, Vals vs us ∧ IsAll K G vs ds
  | _, _, .nil => ⟨[], .nil, .nil⟩
  | _, _, .cons ⟨v, r, h⟩ t => by
    obtain ⟨vs, r2, h2⟩ := items_vals t
    exact ⟨v :: vs, .cons r r2, .cons h h2⟩
end
theorem ar_of {K : KW} {G H : Hp} {v : V} {x : PyData} (g : Ex G H) (h : Is K G v x) : AR K G H v (argW (.d x)) := by
  cases x with
  | list xs =>
    cases h with | lst hs z ha =>
    exact ⟨_, _, rfl, SqL.of (g _ _ hs), z, ha⟩
  | dict kvs =>
    obtain ⟨p, vals, e, h1, h2⟩ := Is.inD h
    exact ⟨p, vals, e, h1.up (Ex.refl _) fun o z => g _ _ z, h2⟩
  | _ => exact h
/-- values that read as the keys k of xs can be sorted, in the order that the alike data e say -/
def SortedBy (xs : List PyData) (k e : PyData → PyData) : Prop := ∀ (prog : Program) (w : World) (A : Around) (s : Shared) (ks : List Value), A.units + 100 < cLine → PySem.W.EachIs (fun u d => ∃ as, Reads s.heap u d as) ks (xs.map k) → (∀ x ∈ xs, (k x).canLay0 = true) →
  ∃ ko, PySem.W.SortsAt prog w A s (KR.kOf ko) ks ∧ PySem.W.EachIs (fun v b => ko v = some (PySem.W.keyToks (e b))) ks xs
/-- sorted(xs, key=f) -/
def rSortK (K : KW) (f : Addr) (spd : Spd) : List V → List V → Hp → VK → Prop := fun vs zs H Q => ∃ (l : Addr) (ys : List V) (G : Hp) (xs : List PyData) (k e : PyData → PyData), vs = [.ref l] ∧ zs = [.ref f] ∧ Ex G H ∧ SqL K H l ys ∧ xs.length ≤ sizeLine ∧ IsAll K G ys xs ∧
  (∀ x ∈ xs, spd [argW (.d x)] (fun w => w = .d (k x)) fun _ _ => False) ∧ (∀ x ∈ xs, noDct (k x) = true) ∧ SortedBy xs k e ∧
  ∀ (zs : List V) (p : Addr) (G1 H1 : Hp), Up G H G1 H1 → H1 p = none → IsAll K G zs (xs.mergeSort (PySem.W.dataLe false e)) → Q (.ref p) (upd H1 p (.lst zs))
section
variable {X : Cx} {f : Addr} {fd : FuncData} {p : Str} {kk : Nat} {spd : Spd}
theorem cr_sortK (F : FnOk X.prog X.w (kw X) X.mg X.base CX0 kk f fd [p] (toSp (kw X) spd)) (hr : Room (kk + 2) X.A) (hb : Binds (kw X) fd [p] []) : CallRK X (.builtin "sorted") [Str.ofString "key"] (rSortK (kw X) f spd) := by
  intro pins s σ H vs zs us ws Q I r rz h
  obtain ⟨l, ys, G, xs, k, e, rfl, rfl, g, hs, hz, al, hsp, hnd, hS, q⟩ := h
  obtain rfl := Vals.ref1 r
  obtain ⟨w1, rfl, e1⟩ := vals1 rz
  obtain rfl : w1 = Value.ref f := e1
  obtain ⟨its, rv, hl, _⟩ := I.list hs
  have un := hr.un
  refine KR.keyed (β := PyData) (bs := xs) (vs := its) (R := ItemIs (kw X) G) (kw := [(Str.ofString "key", .ref f)]) (f := .ref f)
    (J := fun a c s1 ks => a ≠ c ∧ ∃ G1 H1 kv, Up G H G1 H1 ∧ Inv X pins σ H1 s1 ∧ FpOk X pins H1 a ∧ FpOk X pins H1 c ∧ Vals kv ks ∧ IsAll (kw X) G1 kv ((xs.take ks.length).map k))
    e hl.isList (IsAll.items al rv) hz (ksk_s1 _ _) (fun _ => ksk_l1 _ _) (fun x => ksk_t1 f x) ?_ ?_ ?_ ?_ ?_
  · intro a c g' ha hc hac kp kl
    have Ha : H a = none := I.hok.fresh ha
    have Hc : H c = none := I.hok.fresh hc
    exact ⟨hac, G, H, [], Up.refl g, I.kept (t' := s.toks) kp, I.fpOk ha Ha, I.fpOk hc Hc, .nil, .nil⟩
  · rintro a c s1 g' ks ⟨hac, G1, H1, kv, up, I1, fa, fc, rk, ak⟩ sb kl
    exact ⟨hac, G1, H1, kv, up, I1.turnedL (t' := s1.toks) (ch := [c]) (fun b o hb e => (sb.2 b (by simpa using hb)).trans e) (fun b hb => (List.mem_singleton.mp hb).symm ▸ fc), fa, fc, rk, ak⟩
  · rintro a c n1 i v x ks s1 hv hx ⟨vv, rvv, hvv⟩ hi ⟨hac, G1, H1, kv, up, I1, fa, fc, rk, ak⟩ ⟨kx, kn, hkl⟩ hba
    have xm : x ∈ xs := List.mem_of_getElem? hx
    have I2 : Inv X (pins ++ pinsAt [a, c] s1.heap) σ H1 s1 := I1.pinned (fun b hb => by
      rcases List.mem_cons.mp hb with z | z
      · subst z; exact fa
      · have : b = c := by simpa using z
        subst this; exact fc) (fun b hb => by
      rcases List.mem_cons.mp hb with z | z
      · subst z; exact ⟨_, hba, fun v z => by cases z⟩
      · have : b = c := by simpa using z
        subst this; exact ⟨_, hkl, fun v z => by cases z⟩)
    have hv1 : Is (kw X) G1 vv x := Is.mono up.g _ _ hvv
    have hr2 : Room kk X.A.in1.in1 := hr.in1.in1
    have sp : toSp (kw X) spd [vv] H1 (fun v H2 => ∃ G2, Up G1 H1 G2 H2 ∧ Is (kw X) G2 v (k x)) fun _ _ _ => False :=
      ⟨G1, [argW (.d x)], fun w => w = .d (k x), fun _ _ => False, up.gh, .cons (ar_of up.gh hv1) .nil, hsp x xm, fun v w G2 H2 u2 r2 e => (by subst e; exact ⟨G2, u2, r2⟩), fun _ _ _ _ _ _ _ h => h.elim⟩
    refine wpAny_call (codeAny_mono (F.run X.A.in1.in1 X.stack s1 H1 ⟨[v], []⟩ [v] [vv] _ _ hr2 I2.env0.in1.in1 (hb s1 [v] I2.kIn rfl) (.cons rvv .nil) sp) fun r s2 hq => ?_)
    cases r with
    | error e => exact hq.elim
    | ok fl =>
      cases fl with
      | ret u =>
        obtain ⟨v2, H2, I3, rv2, G2, u2, h2⟩ := I2.after hq
        have pa := I3.pin (a, _) (List.mem_append_right _ (List.mem_append_right _ (mem_pinsAt (List.mem_cons_self ..) hba)))
        have pc := I3.pin (c, _) (List.mem_append_right _ (List.mem_append_right _ (mem_pinsAt (List.mem_cons_of_mem _ (List.mem_cons_self ..)) hkl)))
        refine ⟨⟨hac, G2, H2, kv ++ [v2], up.trans u2, I3.unpinned, ⟨pa.2.1, fa.2⟩, ⟨pc.2.1, fc.2⟩, rk.append (.cons rv2 .nil), ?_⟩, pc.1.trans hkl.symm, pa.1.trans hba.symm⟩
        rw [List.length_append, List.length_singleton, List.take_add_one, hi, hx, List.map_append]
        rw [hi] at ak
        exact (ak.up u2.g).append (.cons h2 .nil)
      | next => exact hq.elim
      | brk => exact hq.elim
      | cont => exact hq.elim
  · rintro a c s1 ks ⟨hac, G1, H1, kv, up, I1, fa, fc, rk, ak⟩ hks
    have : (xs.take ks.length).map k = xs.map k := by
      rw [List.take_of_length_le]
      have := rv.length
      have := al.len
      omega
    rw [this] at ak
    exact hS X.prog X.w X.A.in1.in1 s1 ks (by show X.A.units + 1 + 1 + 100 < cLine; omega) (IsAll.each I1 up.gh (noDcts_iff.mpr fun y hy => by
      obtain ⟨x, hx, rfl⟩ := List.mem_map.mp hy
      exact hnd x hx) ak rk) fun x hx => by
      obtain ⟨i, hi⟩ := List.mem_iff_getElem?.mp hx
      obtain ⟨v, _, hv⟩ := ak.get (i := i) (d := k x) (by rw [List.getElem?_map, hi]; rfl)
      exact Is.lay hv (hnd x hx)
  · rintro a c s1 ks h' tk out n sa ⟨hac, G1, H1, kv, up, I1, fa, fc, rk, ak⟩ kp ho hol hout
    obtain ⟨zs, rzs, azs⟩ := items_vals hout
    have I2 : Inv X pins σ H1 { s1 with heap := h', toks := tk } := I1.turnedL (ch := [a, c]) (fun b o hb e => kp b o (fun z => hb (by simp [z])) (fun z => hb (by simp [z])) e) (fun b hb => by
      rcases List.mem_cons.mp hb with z | z
      · subst z; exact fa
      · have : b = c := by simpa using z
        subst this; exact fc)
    have ol : zs.length ≤ sizeLine := by rw [azs.len, List.length_mergeSort]; exact hz
    have I3 := I2.take (it := a) (o := .lst zs) (h' := h') (t' := tk) (fun b ob _ e => e) fa ⟨ol, out, n, rzs, ho⟩
    exact ⟨.ref a, _, I3, rfl, q zs a G1 H1 up fa.1 azs⟩
end
end DL
namespace DL
open PySem PySem.Spec PyProof.Rows L2
def gSortK (spd : Spd) (ws : List W) (Q : W → Prop) : Prop := match ws with
  | [w] => ∃ (xs : List PyData) (k e : PyData → PyData), asL w = some xs ∧ (∀ x ∈ xs, spd [argW (.d x)] (fun r => r = .d (k x)) fun _ _ => False) ∧ (∀ x ∈ xs, noDct (k x) = true) ∧ SortedBy xs k e ∧ Q (.l (xs.mergeSort (PySem.W.dataLe false e)))
  | _ => False
def dSortK (spd : Spd) (u : TAd) : TEd := fun ρ Q => u ρ fun ws => gSortK spd ws Q
theorem snd_sortK {K : KW} {Z : Wish} {f : Addr} {spd : Spd} {ts : TA} {u : TAd} (s : SndA K Z ts u) : Snd K Z (tCKw (rSortK K f spd) ts (tCons (tC (.ref f)) tNil)) (dSortK spd u) := by
  intro G0 H0 G H σ ρ Q' Q E gd hh k
  refine s G0 H0 G H σ ρ _ _ E gd hh fun vs ws G1 H1 u1 r1 q1 => ?_
  have E1 := E.to u1
  unfold gSortK at q1
  split at q1
  · obtain ⟨v, rfl, r2⟩ := r1.one
    obtain ⟨xs, key, e, e1, h1, hn, h2, q⟩ := q1
    obtain ⟨p, us, rfl, hs, z, a⟩ := r2.asL E1 e1
    refine ⟨p, us, G1, xs, key, e, rfl, rfl, u1.gh, hs, z, a, h1, hn, h2, fun zs p2 G2 H2 u2 hp az => ?_⟩
    exact k _ (.l _) G2 _ (u1.trans (u2.trans (Up.newH u2.gh hp))) ⟨p2, zs, rfl, (u1.h.trans u2.h).back hp, u2.gh.back hp, trivial, upd_same, by rw [List.length_mergeSort]; exact z, az.up u2.g⟩ q
  · exact q1.elim
section
variable {X : Cx} {Z : Wish} {pos : Pos}
theorem d_sortK {kk : Nat} {f : Addr} {fd : FuncData} {pn : Str} {spd : Spd} {y : Str} {p p2 kpos : Pos} {e : Expr} {u : TAd} (F : FnOk X.prog X.w (kw X) X.mg X.base CX0 kk f fd [pn] (toSp (kw X) spd)) (hr : Room (kk + 2) X.A) (hmf : X.mg y = some (.ref f)) (hb : Binds (kw X) fd [pn] []) (hm : X.mg "sorted" = none)
    (ha : PDA X Z [e] u) (hv : bootBuiltins "sorted" = some (.builtin "sorted") := by decide +kernel) (hg : Gl X "sorted" := by rfl) (hgf : Gl X y := by rfl) (hdf : (y == ("__debug__" : Str)) = false := by decide)
    (he : backTo pos (starEach [e] X.env) = (false, eval e X.env) :: backTo pos (starEach [] X.env) := by rfl) (hpl : (backTo pos (starEach [e] X.env)).any (·.1) = false := by rfl)
    (hall : (backToKw pos (keywordEach [⟨some "key", .Name y p2, kpos⟩] X.env)).all (·.1.isSome) = true := by rfl) (hnone : (backToKw pos (keywordEach [⟨some "key", .Name y p2, kpos⟩] X.env)).any (·.1.isNone) = false := by rfl)
    (hks : (backToKw pos (keywordEach [⟨some "key", .Name y p2, kpos⟩] X.env)).filterMap (·.1) = [Str.ofString "key"] := by rfl) :
    PD X Z (.Call (.Name "sorted" p) [e] [⟨some "key", .Name y p2, kpos⟩] pos) (dSortK spd u) := by
  obtain ⟨ts, pa, sa⟩ := ha
  exact ⟨_, pe_callBK (ks := [Str.ofString "key"]) (cr_sortK F hr hb) hg hm hv pa (pk_cons (pe_glob (v := .ref f) hgf hmf rfl hdf) pk_nil) (by decide) (by decide) he hpl hall hnone hks, snd_sortK sa⟩
end
end DL
namespace DL
open PySem PySem.Spec PyProof.Rows L2
/-! ### keys of values, rows, facts -/
def keyV : PyData → PyData
  | .str x => .tuple [.int 1, .str x]
  | y => .tuple [.int 0, y]
def factK : PyData → PyData
  | .tuple [.str n, .tuple row] => .tuple [.str n, .list (row.map keyV)]
  | x => x
end DL

namespace KR
open PySem PySem.SeqAt
open PySem.AutoSeq1 (wpAny_loadPart')
open PySem.MeetsSeq PySem.MeetsSeq2 PySem.MeetsSeq3
/-- two pairs: the second items are looked at only where the first are equal -/
def pairLt (e0 r0 e1 r1 : Bool) : Bool := if e0 = true then (if e1 = true then false else r1) else r0
theorem pair_at (l b : Addr) (x0 x1 y0 y1 : Value) (n m : Nat) (dd dd2 : Option Addr) (sl sl2 : Array (Option Value)) (e0 r0 e1 r1 : Bool) :
    Meets (Builtin.«tuple.__lt__» ⟨[.ref l, .ref b], []⟩)
      (fun A R s => s.heap.get? l = some { cls := .type "tuple", dict := dd, data := .seq #[x0, x1] n, slots := sl } ∧ s.heap.get? b = some { cls := .type "tuple", dict := dd2, data := .seq #[y0, y1] m, slots := sl2 } ∧
        EqAt A.in1 s x0 y0 e0 ∧ (e0 = false → RcLt A.in1 s x0 y0 r0) ∧ (e0 = true → EqAt A.in1 s x1 y1 e1) ∧ (e0 = true → e1 = false → RcLt A.in1 s x1 y1 r1) ∧ R (.ok (.ret (.bool (pairLt e0 r0 e1 r1)))) s) :=
  .of_wp fun prog w A R s h => by
    obtain ⟨hp, g, d, tk, os⟩ := s
    obtain ⟨q1, q2, q3, q4, q5, q6, q7⟩ := h
    have st := AutoSeq1.sub_tuple_tuple
    have z3 := q3 prog w
    wp_walk using wpAny_loadPart' q1, wpAny_loadPart' q2, z3
    cases e0 with
    | false =>
      have k := q4 rfl prog w
      wp_walk using k
      exact ⟨_, rfl, q7⟩
    | true =>
      have z5 := q5 rfl prog w
      wp_walk using z5
      cases e1 with
      | false =>
        have k := q6 rfl rfl prog w
        wp_walk using k
        exact ⟨_, rfl, q7⟩
      | true =>
        wp_walk
        exact ⟨_, rfl, q7⟩
theorem pairs {A : Around} {s : Shared} {l b : Addr} {x0 x1 y0 y1 : Value} {e0 r0 e1 r1 : Bool} (hl : s.heap.IsTuple l #[x0, x1]) (hb : s.heap.IsTuple b #[y0, y1]) (hu : A.units < cLine)
    (h1 : EqAt A.in1 s x0 y0 e0) (h2 : e0 = false → RcLt A.in1 s x0 y0 r0) (h3 : e0 = true → EqAt A.in1 s x1 y1 e1) (h4 : e0 = true → e1 = false → RcLt A.in1 s x1 y1 r1) : RcLt A s (.ref l) (.ref b) (pairLt e0 r0 e1 r1) := by
  intro prog w E Q hq
  obtain ⟨⟨c1, d1, k1, s1⟩, g1, rfl, n, rfl⟩ := id hl
  obtain ⟨⟨c2, d2, k2, s2⟩, g2, rfl, m, rfl⟩ := id hb
  exact richCompare_meets_room (op := .Lt) ⟨_, g1, rfl⟩ ⟨_, g2, rfl⟩ F.slot_tuple_lt F.entry_tuple_lt (F.args_tuple_lt_2 _ _) (pair_at l b x0 x1 y0 y1 n m d1 d2 s1 s2 e0 r0 e1 r1) ⟨g1, g2, h1, h2, h3, h4, show _ ≠ Value.notImplemented ∧ Q (.bool _) s from ⟨(fun z => nomatch z), hq⟩⟩ hu
end KR
namespace DL
/-- the program's key of a value -/
def valK : PySem.PyData → PySem.PyData
  | .str x => .tuple [.int 1, .int 0, .str x]
  | y => .tuple [.int 0, y, .str (PySem.Str.ofString "")]
end DL
namespace KR
open PySem PySem.SeqAt PySem.W DL
theorem reads_pair {h : Heap} {v : Value} {p q : PyData} {as : List Addr} (r : Reads h v (.tuple [p, q]) as) : ∃ l x0 x1 as0 as1, v = .ref l ∧ h.IsTuple l #[x0, x1] ∧ Reads h x0 p as0 ∧ Reads h x1 q as1 := by
  cases r with
  | @tuple a o vs n _ _ h1 h2 h3 h4 =>
    obtain ⟨xs, rfl⟩ : ∃ xs : List Value, vs = xs.toArray := ⟨vs.toList, by simp⟩
    replace h4 : ReadsAll h xs [p, q] as := h4
    cases h4 with
    | cons r1 t1 =>
      cases t1 with
      | cons r2 t2 =>
        cases t2
        exact ⟨a, _, _, _, _, rfl, ⟨o, h1, h2, n, h3⟩, r1, r2⟩
theorem no_less : PySem.W.rowLt [] [] = false := PyProof.Rows.lex_irrefl _
theorem key_cmp {A : Around} {s : Shared} {v v' : Value} {y y' : PyData} {as bs : List Addr} (hy : isIS y = true) (hy' : isIS y' = true) (ra : Reads s.heap v (keyV y) as) (rb : Reads s.heap v' (keyV y') bs) (hu : A.units + 2 < cLine) :
    RcLt A s v v' (dataLt (valK y) (valK y')) := by
  have hu0 : A.units < cLine := by omega
  have nl := no_less
  unfold PySem.W.rowLt at nl
  cases y with
  | str x =>
    obtain ⟨l, x0, x1, _, _, rfl, hl, r0, r1⟩ := reads_pair (p := .int 1) (q := .str x) ra
    cases y' with
    | str x' =>
      obtain ⟨l', y0, y1, _, _, rfl, hl', r0', r1'⟩ := reads_pair (p := .int 1) (q := .str x') rb
      cases r0; cases r1; cases r0'; cases r1'
      have k := pairs (r0 := true) (r1 := decide (x.cps.toList < x'.cps.toList)) hl hl' hu0 (EqAt.int_int 1 _ 1 _) (fun z => by cases z) (fun _ => EqAt.str_str x _ x' _) (fun _ _ => fun prog w E Q hq => P.lt_str hq)
      have e : dataLt (valK (.str x)) (valK (.str x')) = pairLt ((1 : Int) == 1) true (x == x') (decide (x.cps.toList < x'.cps.toList)) := by
        show dataLt (.tuple [.int 1, .int 0, .str x]) (.tuple [.int 1, .int 0, .str x']) = _
        rw [dataLt_tuple, dataLt_cons rfl, dataLt_cons rfl, dataLt_cons rfl, dataLt_str, nl]
        rfl
      rw [e]; exact k
    | int i' =>
      obtain ⟨l', y0, y1, _, _, rfl, hl', r0', r1'⟩ := reads_pair (p := .int 0) (q := .int i') rb
      cases r0; cases r1; cases r0'; cases r1'
      have k := pairs (r0 := decide ((1 : Int) < 0)) (e1 := true) (r1 := true) hl hl' hu0 (EqAt.int_int 1 _ 0 _) (fun _ => fun prog w E Q hq => PyProof.Rows.lt_int hq) (fun z => by cases z) (fun z => by cases z)
      have e : dataLt (valK (.str x)) (valK (.int i')) = pairLt ((1 : Int) == 0) (decide ((1 : Int) < 0)) true true := by
        show dataLt (.tuple [.int 1, .int 0, .str x]) (.tuple [.int 0, .int i', .str (Str.ofString "")]) = _
        rw [dataLt_tuple, dataLt_cons rfl, dataLt_int]
        rfl
      rw [e]; exact k
    | _ => cases hy'
  | int i =>
    obtain ⟨l, x0, x1, _, _, rfl, hl, r0, r1⟩ := reads_pair (p := .int 0) (q := .int i) ra
    cases y' with
    | str x' =>
      obtain ⟨l', y0, y1, _, _, rfl, hl', r0', r1'⟩ := reads_pair (p := .int 1) (q := .str x') rb
      cases r0; cases r1; cases r0'; cases r1'
      have k := pairs (r0 := decide ((0 : Int) < 1)) (e1 := true) (r1 := true) hl hl' hu0 (EqAt.int_int 0 _ 1 _) (fun _ => fun prog w E Q hq => PyProof.Rows.lt_int hq) (fun z => by cases z) (fun z => by cases z)
      have e : dataLt (valK (.int i)) (valK (.str x')) = pairLt ((0 : Int) == 1) (decide ((0 : Int) < 1)) true true := by
        show dataLt (.tuple [.int 0, .int i, .str (Str.ofString "")]) (.tuple [.int 1, .int 0, .str x']) = _
        rw [dataLt_tuple, dataLt_cons rfl, dataLt_int]
        rfl
      rw [e]; exact k
    | int i' =>
      obtain ⟨l', y0, y1, _, _, rfl, hl', r0', r1'⟩ := reads_pair (p := .int 0) (q := .int i') rb
      cases r0; cases r1; cases r0'; cases r1'
      have k := pairs (r0 := true) (r1 := decide (i < i')) hl hl' hu0 (EqAt.int_int 0 _ 0 _) (fun z => by cases z) (fun _ => EqAt.int_int i _ i' _) (fun _ _ => fun prog w E Q hq => PyProof.Rows.lt_int hq)
      have e : dataLt (valK (.int i)) (valK (.int i')) = pairLt ((0 : Int) == 0) true (i == i') (decide (i < i')) := by
        show dataLt (.tuple [.int 0, .int i, .str (Str.ofString "")]) (.tuple [.int 0, .int i', .str (Str.ofString "")]) = _
        rw [dataLt_tuple, dataLt_cons rfl, dataLt_cons rfl, dataLt_cons rfl, dataLt_int, nl]
        rfl
      rw [e]; exact k
    | _ => cases hy'
  | _ => cases hy
end KR
namespace KR
open PySem PySem.SeqAt PySem.W DL
theorem is_two {y : PyData} (h : isIS y = true) : (∃ x, y = .str x) ∨ ∃ i, y = .int i := by
  cases y with
  | str x => exact .inl ⟨x, rfl⟩
  | int i => exact .inr ⟨i, rfl⟩
  | _ => cases h
theorem eqv_keys {y y' : PyData} (hy : isIS y = true) (hy' : isIS y' = true) : PyData.eqv (keyV y) (keyV y') = PyData.eqv (valK y) (valK y') := by
  rcases is_two hy with ⟨x, rfl⟩ | ⟨x, rfl⟩ <;> rcases is_two hy' with ⟨z, rfl⟩ | ⟨z, rfl⟩ <;> simp [keyV, valK, PyData.eqv, PyData.eqvAll]
theorem depth_keyV {y : PyData} (h : isIS y = true) : (keyV y).depth = 1 := by
  rcases is_two h with ⟨x, rfl⟩ | ⟨x, rfl⟩ <;> simp [keyV, PyData.depth, PyData.depthAll]
theorem alike_valK {y y' : PyData} (hy : isIS y = true) (hy' : isIS y' = true) : alike (valK y) (valK y') = true := by
  rcases is_two hy with ⟨x, rfl⟩ | ⟨x, rfl⟩ <;> rcases is_two hy' with ⟨z, rfl⟩ | ⟨z, rfl⟩ <;> simp [valK, alike, alikeAll]
theorem alike_rows : ∀ {ys ys' : List PyData}, (∀ y ∈ ys, isIS y = true) → (∀ y ∈ ys', isIS y = true) → alikeAll (ys.map valK) (ys'.map valK) = true
  | [], _, _, _ => by simp [alikeAll]
  | _ :: _, [], _, _ => by simp [alikeAll]
  | y :: ys, y' :: ys', h, h' => by
    rw [List.map_cons, List.map_cons, alikeAll, alike_valK (h y (by simp)) (h' y' (by simp)), alike_rows (fun z m => h z (List.mem_cons_of_mem _ m)) fun z m => h' z (List.mem_cons_of_mem _ m)]
    rfl
theorem reads_at {h : Heap} : ∀ {vs : List Value} {ds : List PyData} {as : List Addr}, ReadsAll h vs ds as → vs.length = ds.length ∧ ∀ j (h1 : j < vs.length) (h2 : j < ds.length), ∃ bs, Reads h vs[j] ds[j] bs
  | _, _, _, .nil => ⟨rfl, fun j h1 => absurd h1 (Nat.not_lt_zero _)⟩
  | _, _, _, .cons r t => by
    obtain ⟨l, k⟩ := reads_at t
    refine ⟨by rw [List.length_cons, List.length_cons, l], fun j h1 h2 => ?_⟩
    cases j with
    | zero => exact ⟨_, r⟩
    | succ j => exact k j (Nat.lt_of_succ_lt_succ h1) (Nat.lt_of_succ_lt_succ h2)
theorem row_cmp {A : Around} {s : Shared} {v v' : Value} {ys ys' : List PyData} {as bs : List Addr} (hy : ∀ y ∈ ys, isIS y = true) (hy' : ∀ y ∈ ys', isIS y = true) (c : ∀ y ∈ ys, (keyV y).canLay0 = true) (c' : ∀ y ∈ ys', (keyV y).canLay0 = true)
    (ra : Reads s.heap v (.list (ys.map keyV)) as) (rb : Reads s.heap v' (.list (ys'.map keyV)) bs) (hu : A.units + 10 < cLine) : RcLt A s v v' (dataLt (.list (ys.map valK)) (.list (ys'.map valK))) := by
  cases ra with
  | @list l o vs n _ as1 h1 h2 h3 h4 =>
    cases rb with
    | @list l' o' vs' n' _ bs1 k1 k2 k3 k4 =>
      obtain ⟨L1, R1⟩ := reads_at h4
      obtain ⟨L2, R2⟩ := reads_at k4
      rw [List.length_map, Array.length_toList] at L1 L2
      have ui : A.in1.units + 2 < cLine := by show A.units + 1 + 2 < cLine; omega
      have e1 : vs.size = (ys.map valK).length := by rw [List.length_map]; exact L1
      have e2 : vs'.size = (ys'.map valK).length := by rw [List.length_map]; exact L2
      rw [dataLt_list, ← firstLt_toks _ _ (alike_rows hy hy'), ← e1, ← e2]
      refine RcLt.lists ⟨_, h1, h2, _, h3⟩ ⟨_, k1, k2, _, k3⟩ (by omega) (fun j j1 j2 => ?_) fun j j1 j2 hj => ?_
      · have m1 : j < ys.length := by omega
        have m2 : j < ys'.length := by omega
        obtain ⟨_, p1⟩ := R1 j (by rw [Array.length_toList]; exact j1) (by rw [List.length_map]; exact m1)
        obtain ⟨_, p2⟩ := R2 j (by rw [Array.length_toList]; exact j2) (by rw [List.length_map]; exact m2)
        rw [List.getElem_map] at p1 p2
        have q := eqAt_reads _ _ A.in1 s _ _ _ _ p1 p2 (c _ (List.getElem_mem m1)) (c' _ (List.getElem_mem m2)) (by rw [depth_keyV (hy _ (List.getElem_mem m1))]; omega)
        rw [eqv_keys (hy _ (List.getElem_mem m1)) (hy' _ (List.getElem_mem m2))] at q
        have e : pairEq (ys.map valK) (ys'.map valK) j = PyData.eqv (valK ys[j]) (valK ys'[j]) := by
          unfold pairEq
          rw [List.getD_eq_getElem?_getD, List.getD_eq_getElem?_getD, List.getElem?_map, List.getElem?_map, List.getElem?_eq_getElem m1, List.getElem?_eq_getElem m2]; rfl
        rw [e]
        simpa using q
      · have m1 : j < ys.length := by omega
        have m2 : j < ys'.length := by omega
        obtain ⟨_, p1⟩ := R1 j (by rw [Array.length_toList]; exact j1) (by rw [List.length_map]; exact m1)
        obtain ⟨_, p2⟩ := R2 j (by rw [Array.length_toList]; exact j2) (by rw [List.length_map]; exact m2)
        rw [List.getElem_map] at p1 p2
        have q := key_cmp (A := A.in1) (hy _ (List.getElem_mem m1)) (hy' _ (List.getElem_mem m2)) p1 p2 ui
        rw [List.getD_eq_getElem?_getD, List.getD_eq_getElem?_getD, List.getElem?_map, List.getElem?_map, List.getElem?_eq_getElem m1, List.getElem?_eq_getElem m2]
        simpa using q
end KR
namespace DL
/-- a fact's key, as the order sees it -/
def fkE (f : Fc) : PySem.PyData := .tuple [.str f.n, .list (f.row.map valK)]
end DL
namespace KR
open PySem PySem.SeqAt PySem.W DL PyProof.Rows
theorem eqv_rows : ∀ {ys ys' : List PyData}, (∀ y ∈ ys, isIS y = true) → (∀ y ∈ ys', isIS y = true) → PyData.eqvAll (ys.map keyV) (ys'.map keyV) = PyData.eqvAll (ys.map valK) (ys'.map valK)
  | [], [], _, _ => by simp [PyData.eqvAll]
  | [], _ :: _, _, _ => by simp [PyData.eqvAll]
  | _ :: _, [], _, _ => by simp [PyData.eqvAll]
  | y :: ys, y' :: ys', h, h' => by
    rw [List.map_cons, List.map_cons, List.map_cons, List.map_cons, eqv_all_cons, eqv_all_cons, eqv_keys (h y (by simp)) (h' y' (by simp)), eqv_rows (fun z m => h z (List.mem_cons_of_mem _ m)) fun z m => h' z (List.mem_cons_of_mem _ m)]
theorem depth_rows {ys : List PyData} (h : ∀ y ∈ ys, isIS y = true) : (PyData.list (ys.map keyV)).depth ≤ 2 := by
  simp only [PyData.depth]
  have := depthAll_le (n := 1) (xs := ys.map keyV) fun x hx => by
    obtain ⟨y, hy, rfl⟩ := List.mem_map.mp hx
    exact Nat.le_of_eq (depth_keyV (h y hy))
  omega
theorem fact_lt {prog : Program} {w : World} {A : Around} {E : Value → Shared → Prop} {s : Shared} {x y : Value} {f g : Fc} {as bs : List Addr} {Q : Bool → Shared → Prop} (hf : ∀ y ∈ f.row, isIS y = true) (hg : ∀ y ∈ g.row, isIS y = true)
    (cf : ∀ y ∈ f.row, (keyV y).canLay0 = true) (cg : ∀ y ∈ g.row, (keyV y).canLay0 = true) (df : (PyData.list (f.row.map keyV)).canLay0 = true) (dg : (PyData.list (g.row.map keyV)).canLay0 = true)
    (ra : Reads s.heap x (factK (fD f)) as) (rb : Reads s.heap y (factK (fD g)) bs) (hu : A.units + 12 < cLine) (hq : Q (dataLt (fkE f) (fkE g)) s) : wpAny (model prog w) A (keyLt' (tuples' true) x y) Q E s := by
  obtain ⟨l, x0, x1, _, _, rfl, ⟨o, h1, _, n, h2⟩, r0, r1⟩ := reads_pair (p := .str f.n) (q := .list (f.row.map keyV)) ra
  obtain ⟨l', y0, y1, _, _, rfl, ⟨o', k1, _, n', k2⟩, r0', r1'⟩ := reads_pair (p := .str g.n) (q := .list (g.row.map keyV)) rb
  cases r0; cases r0'
  have al : alike (.list (f.row.map valK)) (.list (g.row.map valK)) = true := by rw [alike]; exact alike_rows hf hg
  have e2 := eqAt_reads _ _ A s _ _ _ _ r1 r1' df dg (by have := depth_rows hf; omega)
  have ee : PyData.eqv (.list (f.row.map keyV)) (.list (g.row.map keyV)) = PyData.eqv (.list (f.row.map valK)) (.list (g.row.map valK)) := by
    simp only [PyData.eqv]; exact eqv_rows hf hg
  rw [ee] at e2
  unfold fkE at hq
  rw [dataLt_pair rfl al] at hq
  refine kat_lt h1 h2 k1 k2 (kat_cons (EqAt.str_str f.n _ g.n _ prog w _ _ (kat_go (fun z => kat_yes (kat_cons (e2 prog w _ _ (kat_go (fun z2 => kat_yes (kat_nil ?_)) fun z2 => kat_no ?_)))) fun z => kat_no ?_)))
  · rw [if_pos (show PyData.eqv (.str f.n) (.str g.n) = true from z), if_pos z2] at hq
    exact hq
  · rw [if_pos (show PyData.eqv (.str f.n) (.str g.n) = true from z), if_neg (by rw [z2]; exact Bool.false_ne_true)] at hq
    rw [oneLt'_eq]
    exact wpAny_bind (row_cmp hf hg cf cg r1 r1' (by omega) prog w _ _ (wpAny_truthy_bool hq))
  · rw [if_neg (by rw [show PyData.eqv (.str f.n) (.str g.n) = false from z]; exact Bool.false_ne_true), dataLt_str] at hq
    exact oneLt_str hq
end KR
namespace KR
open PySem PySem.SeqAt PySem.W DL PyProof.Rows
mutual
theorem uniq {h : Heap} : ∀ (d d' : PyData) (v : Value) (as as' : List Addr), d.canLay0 = true → Reads h v d as → Reads h v d' as' → d = d'
  | .none, _, _, _, _, _, r, q => by cases r; cases q; rfl
  | .bool _, _, _, _, _, _, r, q => by cases r; cases q; rfl
  | .int _, _, _, _, _, _, r, q => by cases r; cases q; rfl
  | .str _, _, _, _, _, _, r, q => by cases r; cases q; rfl
  | .list xs, d', v, as, as', hc, r, q => by
    cases r with | list a1 a2 a3 a4 =>
    cases q with
    | list b1 b2 b3 b4 => rw [a1] at b1; cases b1; rw [a3] at b3; cases b3; rw [uniqAll xs _ _ _ _ (by simpa only [PyData.canLay0] using hc) a4 b4]
    | tuple b1 b2 b3 b4 => rw [a1] at b1; cases b1; rw [a2] at b2; exact absurd b2 (by decide)
    | dict b1 b2 b3 b4 b5 => rw [a1] at b1; cases b1; rw [a2] at b2; exact absurd b2 (by decide)
  | .tuple xs, d', v, as, as', hc, r, q => by
    cases r with | tuple a1 a2 a3 a4 =>
    cases q with
    | tuple b1 b2 b3 b4 => rw [a1] at b1; cases b1; rw [a3] at b3; cases b3; rw [uniqAll xs _ _ _ _ (by simpa only [PyData.canLay0] using hc) a4 b4]
    | list b1 b2 b3 b4 => rw [a1] at b1; cases b1; rw [a2] at b2; exact absurd b2 (by decide)
    | dict b1 b2 b3 b4 b5 => rw [a1] at b1; cases b1; rw [a2] at b2; exact absurd b2 (by decide)
  | .dict _, _, _, _, _, hc, _, _ => by simp [PyData.canLay0] at hc
theorem uniqAll {h : Heap} : ∀ (xs ys : List PyData) (vs : List Value) (as as' : List Addr), PyData.canLayAll0 xs = true → ReadsAll h vs xs as → ReadsAll h vs ys as' → xs = ys
  | [], _, _, _, _, _, r, q => by cases r; cases q; rfl
  | x :: xs, [], _, _, _, _, r, q => by cases q; cases r
  | x :: xs, y :: ys, vs, _, _, hc, r, q => by
    simp only [PyData.canLayAll0, Bool.and_eq_true] at hc
    cases r with | cons a1 a2 =>
    cases q with | cons b1 b2 =>
    rw [uniq x y _ _ _ hc.1 a1 b1, uniqAll xs ys _ _ _ hc.2 a2 b2]
end
end KR
namespace DL
open PySem PySem.Spec PyProof.Rows L2
def factE : PyData → PyData
  | .tuple [.str n, .tuple row] => .tuple [.str n, .list (row.map valK)]
  | x => x
/-- the program's key of a value from the law's -/
def reK : PyData → PyData
  | .tuple [.int 1, .str x] => .tuple [.int 1, .int 0, .str x]
  | .tuple [.int 0, y] => .tuple [.int 0, y, .str (Str.ofString "")]
  | x => x
theorem keyV_lay {row : List PyData} (h : (PyData.list (row.map keyV)).canLay0 = true) : ∀ y ∈ row, (keyV y).canLay0 = true := by
  simp only [PyData.canLay0] at h
  induction row with
  | nil => intro y hy; cases hy
  | cons z r ih =>
    rw [List.map_cons] at h
    simp only [PyData.canLayAll0, Bool.and_eq_true] at h
    intro y hy
    rcases List.mem_cons.mp hy with e | e
    · subst e; exact h.1
    · exact ih h.2 y e
theorem factK_lay {f : Fc} (h : (factK (fD f)).canLay0 = true) : (PyData.list (f.row.map keyV)).canLay0 = true := by
  have h' : (PyData.tuple [.str f.n, .list (f.row.map keyV)]).canLay0 = true := h
  simp only [PyData.canLay0, PyData.canLayAll0, Bool.and_eq_true] at h' ⊢
  exact h'.2.1
open Classical in
theorem sortedBy_facts {fs : List Fc} (h : ∀ f ∈ fs, ∀ y ∈ f.row, isIS y = true) : SortedBy (fs.map fD) factK factE := by
  intro prog w A s ks hu hr hc
  have hc' : ∀ f ∈ fs, (factK (fD f)).canLay0 = true := fun f hf => hc _ (List.mem_map.mpr ⟨f, hf, rfl⟩)
  let ko : Value → Option (List (Int ⊕ List Nat)) := fun v => if q : ∃ f, f ∈ fs ∧ ∃ as, Reads s.heap v (factK (fD f)) as then some (PySem.W.keyToks (fkE q.choose)) else none
  have one : ∀ {f g : Fc} {v : Value} {as bs : List Addr}, f ∈ fs → Reads s.heap v (factK (fD f)) as → Reads s.heap v (factK (fD g)) bs → fkE f = fkE g := fun {f g v as bs} hf r q => by
    have e := KR.uniq _ _ _ _ _ (hc' f hf) r q
    have e2 : PyData.tuple [.str f.n, .list (f.row.map keyV)] = .tuple [.str g.n, .list (g.row.map keyV)] := e
    injection e2 with e2
    injection e2 with e3 e4
    injection e4 with e4 _
    injection e3 with e3
    injection e4 with e4
    have e5 : ∀ r : List PyData, (r.map keyV).map reK = r.map valK := fun r => by
      rw [List.map_map]
      refine List.map_congr_left fun y _ => ?_
      cases y <;> rfl
    unfold fkE
    rw [e3, ← e5 f.row, ← e5 g.row, e4]
  have some_of : ∀ {f : Fc} {v : Value} {as : List Addr}, f ∈ fs → Reads s.heap v (factK (fD f)) as → ko v = some (PySem.W.keyToks (fkE f)) := fun {f v as} hf r => by
    have q : ∃ f, f ∈ fs ∧ ∃ as, Reads s.heap v (factK (fD f)) as := ⟨f, hf, as, r⟩
    show (if q : ∃ f, f ∈ fs ∧ ∃ as, Reads s.heap v (factK (fD f)) as then some (PySem.W.keyToks (fkE q.choose)) else none) = _
    rw [dif_pos q]
    obtain ⟨m, as', r'⟩ := q.choose_spec
    rw [one m r' r]
  have of_some : ∀ {v : Value} {k : List (Int ⊕ List Nat)}, ko v = some k → ∃ f as, f ∈ fs ∧ Reads s.heap v (factK (fD f)) as ∧ k = PySem.W.keyToks (fkE f) := fun {v k} e => by
    by_cases q : ∃ f, f ∈ fs ∧ ∃ as, Reads s.heap v (factK (fD f)) as
    · obtain ⟨f, m, as, r⟩ := q
      rw [some_of m r] at e
      exact ⟨f, as, m, r, (Option.some.inj e).symm⟩
    · have e' : ko v = none := dif_neg q
      rw [e'] at e; cases e
  have each : PySem.W.EachIs (fun v b => ko v = some (PySem.W.keyToks (factE b))) ks (fs.map fD) := by
    have go : ∀ (gs : List Fc) (us : List Value), (∀ g ∈ gs, g ∈ fs) → PySem.W.EachIs (fun u d => ∃ as, Reads s.heap u d as) us ((gs.map fD).map factK) → PySem.W.EachIs (fun v b => ko v = some (PySem.W.keyToks (factE b))) us (gs.map fD) := by
      intro gs
      induction gs with
      | nil => intro us _ e; cases e; exact .nil
      | cons g gs ih =>
        intro us m e
        cases e with
        | cons e1 e2 =>
          obtain ⟨as, r⟩ := e1
          exact .cons (some_of (m g (by simp)) r) (ih _ (fun x hx => m x (List.mem_cons_of_mem _ hx)) e2)
    exact go fs ks (fun _ m => m) hr
  refine ⟨ko, ⟨fun v hv => ?_, tuples' true, ?_, ?_⟩, each⟩
  · obtain ⟨b, _, hb⟩ := each.left v hv
    exact ⟨_, hb⟩
  · intro E x y a b Q ha hb hq
    obtain ⟨f, as, hf, ra, rfl⟩ := of_some ha
    obtain ⟨g, bs, hg, rb, rfl⟩ := of_some hb
    have hq' : Q (PySem.W.dataLt (fkE f) (fkE g)) s := hq
    exact KR.fact_lt (h f hf) (h g hg) (keyV_lay (factK_lay (hc' f hf))) (keyV_lay (factK_lay (hc' g hg))) (factK_lay (hc' f hf)) (factK_lay (hc' g hg)) ra rb (by omega) hq'
  · intro h2 E Q hq
    have rr : ((fs.map fD).map factK) = fs.map fun f => .tuple [.str f.n, .list (f.row.map keyV)] := by rw [List.map_map]; rfl
    obtain ⟨xs, t1, t2, t3⟩ := PySem.W.each_katTups hr fun d hd => by
      rw [rr] at hd
      obtain ⟨f, _, rfl⟩ := List.mem_map.mp hd
      exact ⟨_, _, rfl⟩
    refine PySem.W.kat_kind (T := .type "str") t1 (by omega) (fun v hv => ?_) (beq_self_eq_true _) hq
    obtain ⟨x, r, as, m1, m2⟩ := t3 v hv
    rw [rr] at m1
    obtain ⟨f, _, e⟩ := List.mem_map.mp m1
    have ex : x = .str f.n := by injection e with e; injection e with e1 _; exact e1.symm
    subst ex
    exact PySem.W.looks_reads m2
theorem depth_fD {f : Fc} (h : ∀ y ∈ f.row, isIS y = true) : (fD f).depth ≤ 2 := by
  have := depthAll_le (n := 0) (xs := f.row) fun y hy => by
    rcases KR.is_two (h y hy) with ⟨x, rfl⟩ | ⟨x, rfl⟩ <;> simp [PyData.depth]
  simp [fD, PyData.depth, PyData.depthAll]
  omega
theorem shD_fD {f : Fc} (h : ∀ y ∈ f.row, isIS y = true) : shD (fD f) := by
  have := depth_fD h
  refine ⟨noDict_tuple fun x hx => ?_, by show (fD f).depth ≤ 64; omega⟩
  simp at hx
  rcases hx with e | e
  · subst e; rfl
  · subst e
    exact noDict_tuple fun y hy => by
      rcases KR.is_two (h y hy) with ⟨x, rfl⟩ | ⟨x, rfl⟩ <;> rfl
end DL

/-! DL13: sealed readings (a head-wise run stops at them), data by type. -/
namespace DL
open PySem PySem.Spec PyProof.Rows L2

/-! ### sealed readings -/
@[irreducible] def iB (b : Bool) (A B : Prop) : Prop := if b = true then A else B
theorem iB_eq (b : Bool) (A B : Prop) : iB b A B = if b = true then A else B := by unfold iB; rfl
theorem iB_t {A B : Prop} (h : A) : iB true A B := by unfold iB; rw [if_pos rfl]; exact h
theorem iB_f {A B : Prop} (h : B) : iB false A B := by unfold iB; rw [if_neg Bool.false_ne_true]; exact h
theorem iB_b {b : Bool} {A B : Prop} (h1 : b = true → A) (h2 : b = false → B) : iB b A B := by unfold iB; exact ifb h1 h2
theorem iB_d {c : Prop} {_ : Decidable c} {A B : Prop} (h1 : c → A) (h2 : ¬ c → B) : iB (decide c) A B := by unfold iB; exact ifd h1 h2
theorem iB_dn {c : Prop} {_ : Decidable c} {A B : Prop} (h1 : ¬ c → A) (h2 : c → B) : iB (!decide c) A B := by
  unfold iB
  by_cases h : c
  · rw [if_neg (by simp [h])]; exact h2 h
  · rw [if_pos (by simp [h])]; exact h1 h
theorem iB_yes {b : Bool} {A B : Prop} (e : b = true) (h : A) : iB b A B := by subst e; exact iB_t h
theorem iB_no {b : Bool} {A B : Prop} (e : b = false) (h : B) : iB b A B := by subst e; exact iB_f h
/-- the walk of a loop over the items ds -/
@[irreducible] def forR (ds : List PyData) (g : TGd) (body : TSd) (D : Dn) (ρ : En) : Prop := ∃ I : Nat → En → Prop, I 0 ρ ∧
  (∀ i x ρ', ds[i]? = some x → I i ρ' → g x ρ' fun ρ2 => body { D with nx := I (i + 1), ct := I (i + 1), bk := D.nx } ρ2) ∧ ∀ ρ', I ds.length ρ' → D.nx ρ'
/-- the walk of a comprehension over the items ds -/
@[irreducible] def lcR (ds : List PyData) (g : TGd) (c : TTd) (elt : TEd) (vs : List Nat) (ρ : En) (Q : W → Prop) : Prop := ∃ I : Nat → List PyData → Prop, I 0 [] ∧
  (∀ i x acc, ds[i]? = some x → I i acc → g x (wipeD ρ vs) fun ρ' => c ρ' fun b => iB b (elt ρ' fun w => onFw w fun y => I (i + 1) (acc ++ [y])) (I (i + 1) acc)) ∧
  ∀ acc, I ds.length acc → Q (.l acc)
@[irreducible] def whileR (c : TTd) (body : TSd) (D : Dn) (ρ : En) : Prop := ∃ I : Nat → En → Prop, (∃ m, I m ρ) ∧ ∀ m ρ', I m ρ' → c ρ' fun b => iB b (∃ N : En → Prop, (∀ ρ2, N ρ2 → ∃ m', m' < m ∧ I m' ρ2) ∧ body { D with nx := N, ct := N, bk := D.nx } ρ') (D.nx ρ')
@[irreducible] def eqR (x y : PyData) (k : Bool → Prop) : Prop := eqK x y k
@[irreducible] def inR (neg : Bool) (x y : W) (Q : W → Prop) : Prop := gInB neg x y Q
@[irreducible] def isiR (ts : List Ty) (w : W) (Q : W → Prop) : Prop := gIsi ts w Q
@[irreducible] def allR (ws : List W) (Q : W → Prop) : Prop := gAll ws Q
@[irreducible] def anyR (ws : List W) (Q : W → Prop) : Prop := gAny ws Q

def sForN (src : TId) (g : TGd) (body : TSd) : TSd := fun D ρ => src ρ fun ds => forR ds g body D ρ
theorem sForN_eq (src : TId) (g : TGd) (body : TSd) : sForN src g body = sFor src g body := by
  funext D ρ; unfold sForN sFor; congr 1; funext ds; unfold forR; rfl
def sWhileN (c : TTd) (body : TSd) : TSd := fun D ρ => whileR c body D ρ
theorem sWhileN_eq (c : TTd) (body : TSd) : sWhileN c body = sWhile c body := by
  funext D ρ; unfold sWhileN sWhile whileR; simp only [iB_eq]
def sIfN (c : TTd) (t u : TSd) : TSd := fun D ρ => c ρ fun b => iB b (t D ρ) (u D ρ)
theorem sIfN_eq (c : TTd) (t u : TSd) : sIfN c t u = sIf c t u := by funext D ρ; unfold sIfN sIf; simp only [iB_eq]
def dIfN (t : TTd) (ta tb : TEd) : TEd := fun ρ Q => t ρ fun c => iB c (ta ρ Q) (tb ρ Q)
theorem dIfN_eq (c : TTd) (t u : TEd) : dIfN c t u = dIf c t u := by funext D ρ; unfold dIfN dIf; simp only [iB_eq]
def dLcN (src : TId) (g : TGd) (c : TTd) (elt : TEd) (vs : List Nat) : TEd := fun ρ Q => src ρ fun ds => lcR ds g c elt vs ρ Q
theorem dLcN_eq (src : TId) (g : TGd) (c : TTd) (elt : TEd) (vs : List Nat) : dLcN src g c elt vs = dLc src g c elt vs := by
  funext ρ Q; unfold dLcN dLc; congr 1; funext ds; unfold lcR; simp only [iB_eq]
def bAndN (t u : TTd) : TTd := fun ρ Q => t ρ fun c => iB c (u ρ Q) (Q false)
def bOrN (t u : TTd) : TTd := fun ρ Q => t ρ fun c => iB c (Q true) (u ρ Q)
theorem bAndN_eq (t u : TTd) : bAndN t u = bAnd t u := by funext ρ Q; unfold bAndN bAnd; simp only [iB_eq]
theorem bOrN_eq (t u : TTd) : bOrN t u = bOr t u := by funext ρ Q; unfold bOrN bOr; simp only [iB_eq]
def dAndN (ta tb : TEd) : TEd := fun ρ Q => ta ρ fun w => onB w fun c => iB c (tb ρ Q) (Q (.d (.bool false)))
def dOrN (ta tb : TEd) : TEd := fun ρ Q => ta ρ fun w => onB w fun c => iB c (Q (.d (.bool true))) (tb ρ Q)
theorem dAndN_eq (t u : TEd) : dAndN t u = dAnd t u := by funext ρ Q; unfold dAndN dAnd; simp only [iB_eq]
theorem dOrN_eq (t u : TEd) : dOrN t u = dOr t u := by funext ρ Q; unfold dOrN dOr; simp only [iB_eq]
def gEqN : W → W → (W → Prop) → Prop := fun x y Q => onD2 x y fun i j => eqR i j fun b => Q (.d (.bool b))
def gNeN : W → W → (W → Prop) → Prop := fun x y Q => onD2 x y fun i j => eqR i j fun b => Q (.d (.bool (!b)))
theorem gEqN_eq : gEqN = gEq := by funext x y Q; unfold gEqN gEq eqR; rfl
theorem gNeN_eq : gNeN = gNe := by funext x y Q; unfold gNeN gNe eqR; rfl
def gInN : W → W → (W → Prop) → Prop := inR false
def gNotInN : W → W → (W → Prop) → Prop := inR true
theorem gInN_eq : gInN = gIn := by funext x y Q; unfold gInN gIn inR; rfl
theorem gNotInN_eq : gNotInN = gNotIn := by funext x y Q; unfold gNotInN gNotIn inR; rfl
def dIsiN (ts : List Ty) (t : TEd) : TEd := fun ρ Q => t ρ fun w => isiR ts w Q
theorem dIsiN_eq (ts : List Ty) (t : TEd) : dIsiN ts t = dIsi ts t := by funext ρ Q; unfold dIsiN dIsi isiR; rfl
theorem od_eqN {K : KW} : OpD K (rEqD K) gEqN := by rw [gEqN_eq]; exact od_eq
theorem od_neN {K : KW} : OpD K (rNeD K) gNeN := by rw [gNeN_eq]; exact od_ne
theorem cd_allN {K : KW} : CallD K (rAll K) allR := by
  have e : allR = gAll := by funext ws Q; unfold allR; rfl
  rw [e]; exact cd_all
theorem cd_anyN {K : KW} : CallD K (rAny K) anyR := by
  have e : anyR = gAny := by funext ws Q; unfold anyR; rfl
  rw [e]; exact cd_any

section
variable {X : Cx} {Z : Wish} {pos : Pos} {K : KW} {a b e : Expr} {st : Stmt} {ss : List Stmt} {ta tb : TEd} {t u : TTd} {s1 s2 : TSd}
theorem ds_forN {src g body} (h : PDS X Z st (sFor src g body)) : PDS X Z st (sForN src g body) := by rw [sForN_eq]; exact h
theorem ds_whileN {c body} (h : PDS X Z st (sWhile c body)) : PDS X Z st (sWhileN c body) := by rw [sWhileN_eq]; exact h
theorem ds_ifN {c} (h : PDS X Z st (sIf c s1 s2)) : PDS X Z st (sIfN c s1 s2) := by rw [sIfN_eq]; exact h
theorem d_ifN {c} (h : PD X Z e (dIf c ta tb)) : PD X Z e (dIfN c ta tb) := by rw [dIfN_eq]; exact h
theorem d_lcN {src g c elt vs} (h : PD X Z e (dLc src g c elt vs)) : PD X Z e (dLcN src g c elt vs) := by rw [dLcN_eq]; exact h
theorem ds_setLcN {i src g c elt vs} (h : PDS X Z st (sSet i (dLc src g c elt vs))) : PDS X Z st (sSet i (dLcN src g c elt vs)) := by rw [dLcN_eq]; exact h
theorem dw_andN (h : PDW X Z e (bAnd t u)) : PDW X Z e (bAndN t u) := by rw [bAndN_eq]; exact h
theorem dw_orN (h : PDW X Z e (bOr t u)) : PDW X Z e (bOrN t u) := by rw [bOrN_eq]; exact h
theorem d_andN (h : PD X Z e (dAnd ta tb)) : PD X Z e (dAndN ta tb) := by rw [dAndN_eq]; exact h
theorem d_orN (h : PD X Z e (dOr ta tb)) : PD X Z e (dOrN ta tb) := by rw [dOrN_eq]; exact h
theorem d_isiN {ts} (h : PD X Z e (dIsi ts ta)) : PD X Z e (dIsiN ts ta) := by rw [dIsiN_eq]; exact h
end
end DL

/-! DL14: data by type; lemmas of the sealed readings. -/
namespace DL
open PySem PySem.Spec PyProof.Rows L2

/-- a type of Lean as data -/
class Enc (α : Type) [DecidableEq α] where
  d : α → PyData
  lvl : Nat
  eqv : ∀ a b : α, PyData.eqv (d a) (d b) = decide (a = b)
  dep : ∀ a : α, (d a).depth ≤ lvl
  nd : ∀ a : α, noDict (d a) = true
  ar : ∀ a : α, argW (.d (d a)) = .d (d a)
abbrev Ed {α : Type} [DecidableEq α] [Enc α] (a : α) : W := .d (Enc.d a)
section
variable {α β γ : Type} [DecidableEq α] [Enc α] [DecidableEq β] [Enc β] [DecidableEq γ] [Enc γ]
theorem Enc.inj {a b : α} (h : Enc.d a = Enc.d b) : a = b := by
  have h1 := Enc.eqv a b
  have h2 := Enc.eqv b b
  rw [h, h2] at h1
  simpa using h1.symm
instance : Enc Str := ⟨.str, 0, fun a b => rfl, fun a => by simp [PyData.depth], noDict_str, fun _ => rfl⟩
instance : Enc Int := ⟨.int, 0, fun a b => by simp only [PyData.eqv]; rw [Bool.eq_iff_iff]; simp, fun a => by simp [PyData.depth], noDict_int, fun _ => rfl⟩
instance : Enc Bool := ⟨.bool, 0, fun a b => by simp only [PyData.eqv]; rw [Bool.eq_iff_iff]; simp, fun a => by simp [PyData.depth], noDict_bool, fun _ => rfl⟩
theorem eqvAll_map : ∀ xs ys : List α, PyData.eqvAll (xs.map Enc.d) (ys.map Enc.d) = decide (xs = ys)
  | [], [] => by simp [PyData.eqvAll]
  | [], _ :: _ => by simp [PyData.eqvAll]
  | _ :: _, [] => by simp [PyData.eqvAll]
  | x :: xs, y :: ys => by
    rw [List.map_cons, List.map_cons, PyData.eqvAll, Enc.eqv, eqvAll_map xs ys, Bool.eq_iff_iff]
    simp
theorem depthAll_map (xs : List α) : PyData.depthAll (xs.map Enc.d) ≤ Enc.lvl α := depthAll_le fun x hx => by
  obtain ⟨a, _, rfl⟩ := List.mem_map.mp hx
  exact Enc.dep a
theorem noDict_map (xs : List α) : ∀ x ∈ xs.map (Enc.d (α := α)), noDict x = true := fun x hx => by
  obtain ⟨a, _, rfl⟩ := List.mem_map.mp hx
  exact Enc.nd a
instance : Enc (List α) := ⟨fun xs => .tuple (xs.map Enc.d), Enc.lvl α + 1, fun a b => by rw [PyData.eqv]; exact eqvAll_map a b, fun a => by
  have := depthAll_map a
  simp only [PyData.depth]; omega, fun a => noDict_tuple (noDict_map a), fun _ => rfl⟩
instance : Enc (α × β) := ⟨fun p => .tuple [Enc.d p.1, Enc.d p.2], max (Enc.lvl α) (Enc.lvl β) + 1, fun a b => by
  rw [PyData.eqv, PyData.eqvAll, PyData.eqvAll, PyData.eqvAll, Enc.eqv, Enc.eqv, Bool.and_true, Bool.eq_iff_iff]
  simp [Prod.ext_iff], fun a => by
  have h1 := Enc.dep a.1
  have h2 := Enc.dep a.2
  simp only [PyData.depth, PyData.depthAll]; omega, fun a => noDict_tuple fun x hx => by
  simp at hx
  rcases hx with e | e <;> subst e <;> exact Enc.nd _, fun _ => rfl⟩
/-- a tuple of three -/
structure Tr (α β γ : Type) where
  a : α
  b : β
  c : γ
  deriving DecidableEq
theorem Tr.ext_iff' {x y : Tr α β γ} : x = y ↔ x.a = y.a ∧ x.b = y.b ∧ x.c = y.c := by
  cases x; cases y; simp
instance : Enc (Tr α β γ) := ⟨fun p => .tuple [Enc.d p.a, Enc.d p.b, Enc.d p.c], max (Enc.lvl α) (max (Enc.lvl β) (Enc.lvl γ)) + 1, fun a b => by
  rw [PyData.eqv, PyData.eqvAll, PyData.eqvAll, PyData.eqvAll, PyData.eqvAll, Enc.eqv, Enc.eqv, Enc.eqv, Bool.and_true, Bool.eq_iff_iff]
  simp [Tr.ext_iff'], fun a => by
  have h1 := Enc.dep a.a
  have h2 := Enc.dep a.b
  have h3 := Enc.dep a.c
  simp only [PyData.depth, PyData.depthAll]; omega, fun a => noDict_tuple fun x hx => by
  simp at hx
  rcases hx with e | e | e <;> subst e <;> exact Enc.nd _, fun _ => rfl⟩
end
/-- an integer or a word -/
inductive Val where
  | i (n : Int) | s (x : Str)
  deriving DecidableEq
def Val.d : Val → PyData
  | .i n => .int n
  | .s x => .str x
def Val.isS : Val → Bool
  | .i _ => false
  | .s _ => true
instance : Enc Val := ⟨Val.d, 0, fun a b => by cases a <;> cases b <;> simp [Val.d, PyData.eqv] <;> (rw [Bool.eq_iff_iff]; simp), fun a => by cases a <;> simp [Val.d, PyData.depth], fun a => by cases a <;> rfl, fun a => by cases a <;> rfl⟩
instance : DecidableEq Tb := fun a b => decidable_of_iff (a.n = b.n ∧ a.k = b.k ∧ a.r = b.r) (by cases a; cases b; simp)
instance : Enc Tb := ⟨tbD, 1, fun a b => by
  cases a; cases b
  simp only [tbD, PyData.eqv, PyData.eqvAll]
  rw [Bool.eq_iff_iff]; simp; omega, fun a => Nat.le_of_eq (depth_tbD a), noDict_tbD, fun _ => rfl⟩
abbrev VRow := List Val
abbrev Fact := Str × VRow
abbrev Block := Tr Str VRow (List VRow)
/-- a term -/
inductive Term where
  | var (x : Str) | val (v : Val)
  deriving DecidableEq
def Term.d : Term → PyData
  | .var x => .tuple [.str "var", .str x]
  | .val v => .tuple [.str "value", Val.d v]
theorem var_ne : (Str.ofString "var" = Str.ofString "value") = False := by
  simp only [eq_iff_iff, iff_false]; decide
instance : Enc Term := ⟨Term.d, 1, fun a b => by
  cases a with
  | var x =>
    cases b with
    | var y => simp only [Term.d, PyData.eqv, PyData.eqvAll]; rw [Bool.eq_iff_iff]; simp
    | val w =>
      simp only [Term.d, PyData.eqv, PyData.eqvAll]; rw [Bool.eq_iff_iff]; simp
      intro h; exact absurd h (by decide)
  | val v =>
    cases b with
    | var y =>
      simp only [Term.d, PyData.eqv, PyData.eqvAll]; rw [Bool.eq_iff_iff]; simp
      intro h; exact absurd h (by decide)
    | val w =>
      have := Enc.eqv v w
      simp only [Term.d, PyData.eqv, PyData.eqvAll]
      rw [show PyData.eqv v.d w.d = decide (v = w) from this, Bool.eq_iff_iff]; simp, fun a => by
  cases a with
  | var x => simp [Term.d, PyData.depth, PyData.depthAll]
  | val v => cases v <;> simp [Term.d, Val.d, PyData.depth, PyData.depthAll], fun a => by
  cases a with
  | var x => exact noDict_tuple fun y hy => by simp at hy; rcases hy with e | e <;> subst e <;> exact noDict_str _
  | val v => exact noDict_tuple fun y hy => by simp at hy; rcases hy with e | e <;> subst e <;> first | exact noDict_str _ | exact Enc.nd (α := Val) v, fun a => by cases a <;> rfl⟩
abbrev Atom := Str × List Term
abbrev Join := List Term × List Atom
abbrev Quest := Int × List Join

/-! ### == by type -/
section
variable {α β γ : Type} [DecidableEq α] [Enc α] {k : Bool → Prop}
theorem eqR_int {i j : Int} (h : k (decide (i = j))) : eqR (.int i) (.int j) k := by unfold eqR; exact h
theorem eqR_str {i j : Str} (h : k (decide (i = j))) : eqR (.str i) (.str j) k := by unfold eqR; exact h
theorem eqR_bool {i j : Bool} (h : k (decide (i = j))) : eqR (.bool i) (.bool j) k := by unfold eqR; exact h
theorem eqK_gen {x y : PyData} (h1 : shD x) (h2 : shD y) (h : k (PyData.eqv x y)) : eqK x y k := by
  rw [← eqD_ok] at h
  unfold eqK
  split
  · exact h
  · exact h
  · exact h
  · refine ⟨h1, h2, ?_⟩
    rw [← eqD_ok]; exact h
theorem eqR_gen {x y : PyData} (h1 : shD x) (h2 : shD y) (h : k (PyData.eqv x y)) : eqR x y k := by unfold eqR; exact eqK_gen h1 h2 h
theorem shD_of {x : PyData} (n : noDct x = true) (h : x.depth ≤ 64) : shD x := by unfold shD; split <;> first | trivial | exact ⟨n, h⟩
theorem shD_enc (a : α) (h : Enc.lvl α ≤ 64 := by decide) : shD (Enc.d a) := shD_of (Enc.nd a) (Nat.le_trans (Enc.dep a) h)
theorem eqR_enc {a b : α} (h : k (decide (a = b))) (hl : Enc.lvl α ≤ 64 := by decide) : eqR (Enc.d a) (Enc.d b) k :=
  eqR_gen (shD_enc a hl) (shD_enc b hl) (by rw [Enc.eqv]; exact h)
theorem eqR_tup {a b : List α} (h : k (decide (a = b))) (hl : Enc.lvl α ≤ 63 := by decide) : eqR (.tuple (a.map Enc.d)) (.tuple (b.map Enc.d)) k :=
  eqR_enc (α := List α) (a := a) (b := b) h (by show Enc.lvl α + 1 ≤ 64; omega)
theorem eqR_list {a b : List α} (h : k (decide (a = b))) (hl : Enc.lvl α ≤ 63 := by decide) : eqR (.list (a.map Enc.d)) (.list (b.map Enc.d)) k := by
  have d1 := depthAll_map a
  have d2 := depthAll_map b
  refine eqR_gen (shD_of (noDict_list (noDict_map a)) ?_) (shD_of (noDict_list (noDict_map b)) ?_) ?_
  · simp only [PyData.depth]; omega
  · simp only [PyData.depth]; omega
  · rw [PyData.eqv, eqvAll_map]; exact h
theorem eqR_flip {x y : PyData} (h : eqR x y k) : eqR x y k := h
theorem inD_enc (a : α) (xs : List α) : inD (Enc.d a) (xs.map Enc.d) = decide (a ∈ xs) := by
  unfold inD
  rw [List.any_map, Bool.eq_iff_iff]
  simp only [List.any_eq_true, Function.comp_apply, Enc.eqv, decide_eq_true_eq]
  exact ⟨fun ⟨x, h, e⟩ => e ▸ h, fun h => ⟨a, h, rfl⟩⟩
end

/-! ### in -/
/-- in of a tuple of any data -/
def rInT (K : KW) (neg : Bool) : R2 := fun x y H Q => ∃ d ds, Dp K H x d ∧ Dp K H y (.tuple ds) ∧ SeqAt.shaped d = true ∧ SeqAt.shaped (.tuple ds) = true ∧ Q (.bl (if neg then !ds.any fun z => PyData.eqv z d else ds.any fun z => PyData.eqv z d)) H
section
variable {X : Cx} {K : KW}
theorem op_inT (hu : X.A.units + 65 < cLine) : OpR X (compareOp .In) (rInT (kw X) false) := by
  intro pins s σ H x y v u Q I rx ry h
  obtain ⟨d, ds, hd, he, sd, se, q⟩ := h
  obtain ⟨as, r1⟩ := Dp.reads I d x v hd rx
  obtain ⟨bs, r2⟩ := Dp.reads I (.tuple ds) y u he ry
  exact SeqAt.in_tuple_reads r2 r1 (SeqAt.canLay_of_shaped se) (SeqAt.canLay_of_shaped sd) (room_in_shaped sd hu) ⟨.bl _, H, I, rfl, q⟩
theorem op_notInT (hu : X.A.units + 65 < cLine) : OpR X (compareOp .NotIn) (rInT (kw X) true) := by
  intro pins s σ H x y v u Q I rx ry h
  obtain ⟨d, ds, hd, he, sd, se, q⟩ := h
  obtain ⟨as, r1⟩ := Dp.reads I d x v hd rx
  obtain ⟨bs, r2⟩ := Dp.reads I (.tuple ds) y u he ry
  exact SeqAt.notIn_tuple_reads r2 r1 (SeqAt.canLay_of_shaped se) (SeqAt.canLay_of_shaped sd) (room_in_shaped sd hu) ⟨.bl _, H, I, rfl, q⟩
def gInT (neg : Bool) (x y : W) (Q : W → Prop) : Prop := match asD x, y with
  | some i, .d (.tuple ys) => shD i ∧ shAll ys ∧ Q (.d (.bool (if neg then !inD i ys else inD i ys)))
  | _, _ => False
theorem od_inT (neg : Bool) : OpD K (rInT K neg) (gInT neg) := by
  intro G0 H0 Hx Hy G H σ ρ x y wx wy Q' Q E rx ry q k
  unfold gInT at q
  split at q
  · rename_i i ys e1
    obtain ⟨f1, f2, q⟩ := q
    have hl : Dp K H y (.tuple ys) := Is.dp (Is.up E.gh ry) (by rw [noDct]; exact f2.1)
    have hs : SeqAt.shaped (.tuple ys) = true := by
      unfold SeqAt.shaped
      rw [Bool.and_eq_true, decide_eq_true_eq]
      refine ⟨Is.lay ry (by rw [noDct]; exact f2.1), ?_⟩
      have := f2.2
      simp only [PyData.depth]
      omega
    exact ⟨i, ys, rx.asD E e1 (shD_nd f1), hl, shD_ok (rx.lay e1) f1, hs, k _ (.d (.bool _)) G H (Up.refl E.gh) (.bl _) q⟩
  · exact q.elim
/-- in: all that is known -/
@[irreducible] def inX (neg : Bool) (x y : W) (Q : W → Prop) : Prop := gInB neg x y Q ∨ gInT neg x y Q
def gInX : W → W → (W → Prop) → Prop := inX false
def gNotInX : W → W → (W → Prop) → Prop := inX true
def rInX (K : KW) : R2 := fun x y H Q => rInA K x y H Q ∨ rInT K false x y H Q
def rNotInX (K : KW) : R2 := fun x y H Q => rNotInA K x y H Q ∨ rInT K true x y H Q
theorem op_inX (hu : X.A.units + 65 < cLine) : OpR X (compareOp .In) (rInX (kw X)) := (op_inA hu).or (op_inT hu)
theorem op_notInX (hu : X.A.units + 65 < cLine) : OpR X (compareOp .NotIn) (rNotInX (kw X)) := (op_notInA hu).or (op_notInT hu)
theorem od_inX : OpD K (rInX K) gInX := (OpD.or od_in (od_inT false)).weak fun x y Q h => by unfold gInX inX at h; exact h
theorem od_notInX : OpD K (rNotInX K) gNotInX := (OpD.or od_notIn (od_inT true)).weak fun x y Q h => by unfold gNotInX inX at h; exact h
end
def ngB (neg b : Bool) : Bool := if neg then !b else b
section
variable {α : Type} [DecidableEq α] [Enc α] {Q : W → Prop} {neg : Bool}
theorem shAll_map (xs : List α) (hl : Enc.lvl α ≤ 63) : shAll (xs.map Enc.d) := ⟨noDcts_map (fun a => Enc.nd a) xs, Nat.le_trans (depthAll_map xs) hl⟩
theorem inX_str {i j : Str} (h : Q (.d (.bool (ngB neg (subS i j))))) : inX neg (.d (.str i)) (.d (.str j)) Q := by unfold inX; exact .inl h
theorem inX_of {x y : W} {i : PyData} {ys : List PyData} (e1 : asD x = some i) (e2 : asL y = some ys) (h1 : shD i) (h2 : shAll ys) (h : Q (.d (.bool (ngB neg (inD i ys))))) : inX neg x y Q := by
  unfold inX
  refine .inl ?_
  unfold gInB
  split
  · cases e2
  · cases e2
  · rw [e1, e2]; exact ⟨h1, h2, h⟩
theorem inX_l {x y : W} {a : α} {xs : List α} (h : Q (.d (.bool (ngB neg (decide (a ∈ xs)))))) (e1 : asD x = some (Enc.d a) := by rfl) (e2 : asL y = some (xs.map Enc.d) := by rfl) (hl : Enc.lvl α ≤ 63 := by decide) : inX neg x y Q :=
  inX_of e1 e2 (shD_enc a (by omega)) (shAll_map xs hl) (by rw [inD_enc]; exact h)
theorem inX_t {x : W} {a : α} {xs : List α} (h : Q (.d (.bool (ngB neg (decide (a ∈ xs)))))) (e1 : asD x = some (Enc.d a) := by rfl) (hl : Enc.lvl α ≤ 63 := by decide) : inX neg x (.d (.tuple (xs.map Enc.d))) Q := by
  unfold inX
  refine .inr ?_
  unfold gInT
  rw [e1]
  refine ⟨shD_enc a (by omega), shAll_map xs hl, ?_⟩
  rw [inD_enc]; exact h
end

/-! ### isinstance, all, any -/
section
variable {Q : W → Prop} {ts : List Ty}
theorem isiR_of {w : W} {t : Ty} (b : Bool) (h : Q (.d (.bool b))) (e1 : tyW w = some t := by rfl) (e2 : ts.any (isTy t) = b := by decide) : isiR ts w Q := by
  unfold isiR gIsi
  rw [e1]; show Q (.d (.bool (ts.any (isTy t)))); rw [e2]; exact h
theorem isiR_vs {v : Val} (h : Q (.d (.bool v.isS))) : isiR [.str] (.d (Enc.d v)) Q := by
  cases v with
  | i n => exact isiR_of false h
  | s x => exact isiR_of true h
theorem isiR_vi {v : Val} (h : Q (.d (.bool (!v.isS)))) : isiR [.int] (.d (Enc.d v)) Q := by
  cases v with
  | i n => exact isiR_of true h
  | s x => exact isiR_of false h
theorem allR_of {w : W} {bs : List Bool} (h : Q (.d (.bool (bs.all id)))) (e : asL w = some (bs.map .bool)) : allR [w] Q := by
  unfold allR; exact ⟨_, bs, e, rfl, h⟩
theorem anyR_of {w : W} {bs : List Bool} (h : Q (.d (.bool (bs.any id)))) (e : asL w = some (bs.map .bool)) : anyR [w] Q := by
  unfold anyR; exact ⟨_, bs, e, rfl, h⟩
theorem allR_map {α : Type} {xs : List α} {p : α → Bool} (h : Q (.d (.bool (xs.all p)))) : allR [.l (xs.map fun x => .bool (p x))] Q :=
  allR_of (bs := xs.map p) (by rw [List.all_map]; exact h) (by rw [List.map_map]; rfl)
theorem anyR_map {α : Type} {xs : List α} {p : α → Bool} (h : Q (.d (.bool (xs.any p)))) : anyR [.l (xs.map fun x => .bool (p x))] Q :=
  anyR_of (bs := xs.map p) (by rw [List.any_map]; exact h) (by rw [List.map_map]; rfl)
end

/-! ### comprehensions -/
section
variable {α : Type} {xs : List α} {en : α → PyData} {g : TGd} {c : TTd} {elt : TEd} {vs : List Nat} {ρ : En} {Q : W → Prop}
theorem lcR_inv (I : List α → List PyData → Prop) (i0 : I [] []) (h : ∀ pre x post acc, xs = pre ++ x :: post → I pre acc → g (en x) (wipeD ρ vs) fun ρ' => c ρ' fun b => iB b (elt ρ' fun w => onFw w fun y => I (pre ++ [x]) (acc ++ [y])) (I (pre ++ [x]) acc))
    (q : ∀ acc, I xs acc → Q (.l acc)) : lcR (xs.map en) g c elt vs ρ Q := by
  unfold lcR
  refine ⟨fun i acc => I (xs.take i) acc, by simpa using i0, fun i y acc hy ha => ?_, fun acc ha => ?_⟩
  · obtain ⟨x, hx, rfl⟩ := map_some hy
    obtain ⟨hi, e⟩ := List.getElem?_eq_some_iff.mp hx
    have e1 : xs.take (i + 1) = xs.take i ++ [x] := by rw [List.take_add_one, hx]; rfl
    have e2 : xs = xs.take i ++ x :: xs.drop (i + 1) := by
      rw [← e, ← List.drop_eq_getElem_cons hi, List.take_append_drop]
    have := h (xs.take i) x (xs.drop (i + 1)) acc e2 ha
    simp only [e1]; exact this
  · rw [List.length_map, List.take_length] at ha
    exact q acc ha
theorem lcR_fm (f : α → Option PyData) (h : ∀ x ∈ xs, ∀ k : Option PyData → Prop, k (f x) → g (en x) (wipeD ρ vs) fun ρ' => c ρ' fun b => iB b (elt ρ' fun w => onFw w fun y => k (some y)) (k none))
    (q : Q (.l (xs.filterMap f))) : lcR (xs.map en) g c elt vs ρ Q := by
  refine lcR_inv (fun pre acc => acc = pre.filterMap f) rfl (fun pre x post acc e ha => ?_) fun acc ha => by rw [ha]; exact q
  have hx : x ∈ xs := by rw [e]; simp
  have := h x hx (fun o => acc ++ o.toList = (pre ++ [x]).filterMap f) (by
    rw [ha, List.filterMap_append]
    cases e1 : f x <;> simp [e1])
  simpa using this
theorem lcR_map (f : α → PyData) (h : ∀ x ∈ xs, ∀ (k : PyData → Prop) (z : Prop), k (f x) → g (en x) (wipeD ρ vs) fun ρ' => c ρ' fun b => iB b (elt ρ' fun w => onFw w fun y => k y) z)
    (q : Q (.l (xs.map f))) : lcR (xs.map en) g c elt vs ρ Q :=
  lcR_fm (fun x => some (f x)) (fun x hx k hk => h x hx (fun y => k (some y)) (k none) hk) (by rw [List.filterMap_eq_map']; exact q)
theorem lcR_filter (p : α → Bool) (f : α → PyData) (h : ∀ x ∈ xs, ∀ (k : PyData → Prop) (z : Prop), (p x = true → k (f x)) → (p x = false → z) → g (en x) (wipeD ρ vs) fun ρ' => c ρ' fun b => iB b (elt ρ' fun w => onFw w fun y => k y) z)
    (q : Q (.l ((xs.filter p).map f))) : lcR (xs.map en) g c elt vs ρ Q := by
  refine lcR_fm (fun x => if p x = true then some (f x) else none) (fun x hx k hk => h x hx (fun y => k (some y)) (k none) (fun e => by simpa [e] using hk) (fun e => by simpa [e] using hk)) ?_
  have e : ∀ l : List α, l.filterMap (fun x => if p x = true then some (f x) else none) = (l.filter p).map f := by
    intro l
    induction l with
    | nil => rfl
    | cons a l ih => cases hp : p a <;> simp [List.filterMap_cons, List.filter_cons, hp, ih]
  rw [e]; exact q
end
/-! ### loops -/
section
variable {α S : Type} {xs : List α} {en : α → PyData} {g : TGd} {body : TSd} {D : Dn} {ρ : En}
/-- I: by what has been taken so far and the state; e: the slots by the state -/
theorem forR_st (e : S → En) (I : List α → S → Prop) (s0 : S) (h0 : ρ = e s0) (i0 : I [] s0)
    (h : ∀ pre x post s, xs = pre ++ x :: post → I pre s → g (en x) (e s) fun ρ2 => body { D with nx := fun ρ' => ∃ s', ρ' = e s' ∧ I (pre ++ [x]) s', ct := fun ρ' => ∃ s', ρ' = e s' ∧ I (pre ++ [x]) s', bk := D.nx } ρ2)
    (q : ∀ s, I xs s → D.nx (e s)) : forR (xs.map en) g body D ρ := by
  unfold forR
  refine ⟨fun i ρ' => ∃ s, ρ' = e s ∧ I (xs.take i) s, ⟨s0, h0, by simpa using i0⟩, fun i y ρ' hy hs => ?_, fun ρ' hs => ?_⟩
  · obtain ⟨s, rfl, hs⟩ := hs
    obtain ⟨x, hx, rfl⟩ := map_some hy
    obtain ⟨hi, e0⟩ := List.getElem?_eq_some_iff.mp hx
    have e1 : xs.take (i + 1) = xs.take i ++ [x] := by rw [List.take_add_one, hx]; rfl
    have e2 : xs = xs.take i ++ x :: xs.drop (i + 1) := by
      rw [← e0, ← List.drop_eq_getElem_cons hi, List.take_append_drop]
    have := h (xs.take i) x (xs.drop (i + 1)) s e2 hs
    simp only [e1]; exact this
  · obtain ⟨s, rfl, hs⟩ := hs
    rw [List.length_map, List.take_length] at hs
    exact q s hs
/-- what a turn makes of the state is a function -/
theorem forR_fold (e : S → En) (f : S → α → S) (P : S → Prop) (s0 : S) (h0 : ρ = e s0) (p0 : P s0)
    (h : ∀ x ∈ xs, ∀ s, P s → ∀ N : En → Prop, (P (f s x) → N (e (f s x))) → g (en x) (e s) fun ρ2 => body { D with nx := N, ct := N, bk := D.nx } ρ2)
    (q : P (xs.foldl f s0) → D.nx (e (xs.foldl f s0))) (hP : ∀ s x, x ∈ xs → P s → P (f s x)) : forR (xs.map en) g body D ρ := by
  refine forR_st e (fun pre s => s = pre.foldl f s0 ∧ P s) s0 h0 ⟨rfl, p0⟩ (fun pre x post s hx hs => ?_) fun s ⟨e1, hs⟩ => ?_
  · have hm : x ∈ xs := by rw [hx]; simp
    exact h x hm s hs.2 _ fun hp => ⟨_, rfl, by rw [hs.1, List.foldl_append]; rfl, hp⟩
  · subst e1; exact q hs
/-- a loop that searches: nothing is kept from turn to turn but J -/
theorem forR_nil {D : Dn} (h : D.nx ρ) : forR [] g body D ρ := by
  unfold forR
  exact ⟨fun _ ρ' => ρ' = ρ, rfl, (fun i x ρ' hx => by simp at hx), fun ρ' e => by rw [e]; exact h⟩
theorem whileR_st {c : TTd} (e : S → En) (I : S → Prop) (m : S → Nat) (s0 : S) (h0 : ρ = e s0) (i0 : I s0)
    (h : ∀ s, I s → c (e s) fun b => iB b (∃ N : En → Prop, (∀ ρ2, N ρ2 → ∃ m', m' < m s ∧ ∃ s', ρ2 = e s' ∧ I s' ∧ m s' = m') ∧ body { D with nx := N, ct := N, bk := D.nx } (e s)) (D.nx (e s))) : whileR c body D ρ := by
  unfold whileR
  refine ⟨fun n ρ' => ∃ s, ρ' = e s ∧ I s ∧ m s = n, ⟨m s0, s0, h0, i0, rfl⟩, ?_⟩
  rintro n ρ' ⟨s, rfl, hs, rfl⟩
  exact h s hs
/-- the turn of a while: where it goes on -/
theorem whileN {e : S → En} {I : S → Prop} {m : S → Nat} {s : S} {σ : En} (h : body { D with nx := fun ρ' => ∃ s', ρ' = e s' ∧ I s' ∧ m s' < m s, ct := fun ρ' => ∃ s', ρ' = e s' ∧ I s' ∧ m s' < m s, bk := D.nx } σ) :
    ∃ N : En → Prop, (∀ ρ2, N ρ2 → ∃ m', m' < m s ∧ ∃ s', ρ2 = e s' ∧ I s' ∧ m s' = m') ∧ body { D with nx := N, ct := N, bk := D.nx } σ :=
  ⟨_, fun _ ⟨s', h1, h2, h3⟩ => ⟨_, h3, s', h1, h2, rfl⟩, h⟩
end
/-! ### calls, targets -/
@[irreducible] def callR (spd : Spd) (ws : List W) (Q : W → Prop) (ZD : XEd) : Prop := onOk (okB ws) (spd (ws.map argW) (fun w => onRes w Q) ZD)
theorem callR_of {spd : Spd} {ws : List W} {Q : W → Prop} {ZD : XEd} (h : spd (ws.map argW) (fun w => onRes w Q) ZD) (hk : okB ws = true := by rfl) : callR spd ws Q ZD := by unfold callR; rw [hk]; exact h
def dCallN (spd : Spd) (ZD : XEd) (u : TAd) : TEd := fun ρ Q => u ρ fun ws => callR spd ws Q ZD
theorem dCallN_eq (spd : Spd) (ZD : XEd) (u : TAd) : dCallN spd ZD u = dCall spd ZD u := by funext ρ Q; unfold dCallN dCall callR; rfl
theorem d_callN {X : Cx} {Z : Wish} {e : Expr} {spd : Spd} {ZD : XEd} {u : TAd} (h : PD X Z e (dCall spd ZD u)) : PD X Z e (dCallN spd ZD u) := by rw [dCallN_eq]; exact h
def nGtupN (n : Nat) (u : TGsd) : TGd := fun d ρ Q => match d with
  | .tuple xs => match Nat.beq xs.length n with
    | true => u xs ρ Q
    | false => False
  | _ => False
theorem snd_nGtupN {K : KW} {us : List Nat} {g : TG} {n : Nat} {u : TGsd} (h : SndG K us g (nGtup n u)) : SndG K us g (nGtupN n u) := by
  intro G0 H0 G H σ ρ d v Q' Q E r q k
  refine h G0 H0 G H σ ρ d v Q' Q E r ?_ k
  unfold nGtupN at q
  unfold nGtup
  cases d with
  | tuple xs =>
    have q' : (match Nat.beq xs.length n with
      | true => u xs ρ Q'
      | false => False) := q
    cases e : Nat.beq xs.length n with
    | true => rw [e] at q'; exact ⟨Nat.eq_of_beq_eq_true e, q'⟩
    | false => rw [e] at q'; exact q'.elim
  | _ => exact q.elim
theorem dg_tupN {X : Cx} {us : List Nat} {e : Expr} {n : Nat} {u : TGsd} (h : PDG X us e (nGtup n u)) : PDG X us e (nGtupN n u) := by
  obtain ⟨g, p, s⟩ := h
  exact ⟨g, p, snd_nGtupN s⟩
theorem argW_enc {α : Type} [DecidableEq α] [Enc α] (a : α) : argW (.d (Enc.d a)) = .d (Enc.d a) := Enc.ar a
theorem argW_l (xs : List PyData) : argW (.l xs) = .b xs := rfl
theorem argW_r (xs : List PyData) : argW (.r xs) = .b xs := rfl
theorem argW_b (xs : List PyData) : argW (.b xs) = .b xs := rfl
theorem argW_dl (xs : List PyData) : argW (.d (.list xs)) = .b xs := rfl
theorem argW_dt (xs : List PyData) : argW (.d (.tuple xs)) = .d (.tuple xs) := rfl
theorem argW_i (x : Int) : argW (.d (.int x)) = .d (.int x) := rfl
theorem argW_s (x : Str) : argW (.d (.str x)) = .d (.str x) := rfl
theorem argW_o (x : Bool) : argW (.d (.bool x)) = .d (.bool x) := rfl
theorem argW_n : argW (.d .none) = .d .none := rfl
theorem argW_w : argW .drw = .drw := rfl
theorem argW_m (x : List (PyData × PyData)) : argW (.x (.m x)) = .x (.bm x) := rfl
theorem argW_rm (x : List (PyData × PyData)) : argW (.x (.rm x)) = .x (.bm x) := rfl
theorem argW_bm (x : List (PyData × PyData)) : argW (.x (.bm x)) = .x (.bm x) := rfl
theorem argW_dd (x : List (PyData × PyData)) : argW (.d (.dict x)) = .x (.bm x) := rfl
end DL

/-! DL15: the program's schemas, facts, blocks by type. -/
namespace DL
open PySem PySem.Spec PyProof.Rows L2
theorem findT_app {pre post : List Tb} {t : Tb} {n : Str} (h : ∀ u ∈ pre, u.n ≠ n) (e : t.n = n) : findT (pre ++ t :: post) n = some t := by
  unfold findT
  rw [List.find?_append, List.find?_eq_none.mpr (fun u hu => by simpa using h u hu)]
  simp [e]
/-- the key of a fact -/
def keyF (ts : List Tb) (f : Fact) : VRow := match findT ts f.1 with
  | some t => f.2.take t.k
  | none => f.2
def hasT (ts : List Tb) (f : Fact) : Prop := ∃ t, findT ts f.1 = some t
def sameBlk (ts : List Tb) (f g : Fact) : Bool := decide (f.1 = g.1) && decide (keyF ts f = keyF ts g)
/-- the other facts of f's block -/
def rivals (ts : List Tb) (gs : List Fact) (f : Fact) : List Fact := gs.filter fun g => !decide (g = f) && sameBlk ts f g
end DL

/-! DL16: orders by type, ascending lists, sorted by a key. -/
namespace DL
open PySem PySem.Spec PyProof.Rows L2
/-- a strict total order -/
class SO (α : Type) where
  lt : α → α → Bool
  irr : ∀ a, lt a a = false
  tr : ∀ a b c, lt a b = true → lt b c = true → lt a c = true
  tri : ∀ a b, lt a b = true ∨ a = b ∨ lt b a = true
theorem SO.asym {α : Type} [SO α] {a b : α} (h : SO.lt a b = true) : SO.lt b a = false := by
  cases e : SO.lt b a with
  | false => rfl
  | true => have := SO.tr _ _ _ h e; rw [SO.irr] at this; cases this
theorem SO.eq_of {α : Type} [SO α] {a b : α} (h1 : SO.lt a b = false) (h2 : SO.lt b a = false) : a = b := by
  rcases SO.tri a b with h | h | h
  · rw [h1] at h; cases h
  · exact h
  · rw [h2] at h; cases h
instance : SO Int := ⟨fun a b => decide (a < b), fun a => by simp, fun a b c h1 h2 => by simp at *; omega, fun a b => by simp; omega⟩
instance : SO Nat := ⟨fun a b => decide (a < b), fun a => by simp, fun a b c h1 h2 => by simp at *; omega, fun a b => by simp; omega⟩
section
variable {α β : Type} [SO α] [SO β] [DecidableEq α]
/-- the first place that differs decides; the shorter one first -/
def ltL : List α → List α → Bool
  | _, [] => false
  | [], _ :: _ => true
  | a :: as, b :: bs => if a = b then ltL as bs else SO.lt a b
theorem ltL_irr : ∀ a : List α, ltL a a = false
  | [] => rfl
  | a :: as => by rw [ltL, if_pos rfl]; exact ltL_irr as
theorem ltL_tr : ∀ a b c : List α, ltL a b = true → ltL b c = true → ltL a c = true
  | _, [], _, h, _ => by simp [ltL] at h
  | _, _ :: _, [], _, h => by simp [ltL] at h
  | [], _ :: _, _ :: _, _, _ => rfl
  | a :: as, b :: bs, c :: cs, h1, h2 => by
    rw [ltL] at h1 h2 ⊢
    by_cases e1 : a = b
    · subst e1
      rw [if_pos rfl] at h1
      by_cases e2 : a = c
      · rw [if_pos e2] at h2 ⊢; exact ltL_tr _ _ _ h1 h2
      · rw [if_neg e2] at h2 ⊢; exact h2
    · rw [if_neg e1] at h1
      by_cases e2 : b = c
      · subst e2
        rw [if_neg e1]; exact h1
      · rw [if_neg e2] at h2
        have h3 := SO.tr _ _ _ h1 h2
        by_cases e3 : a = c
        · subst e3; rw [SO.irr] at h3; cases h3
        · rw [if_neg e3]; exact h3
theorem ltL_tri : ∀ a b : List α, ltL a b = true ∨ a = b ∨ ltL b a = true
  | [], [] => .inr (.inl rfl)
  | [], _ :: _ => .inl rfl
  | _ :: _, [] => .inr (.inr rfl)
  | a :: as, b :: bs => by
    rw [ltL, ltL]
    by_cases e : a = b
    · subst e
      rw [if_pos rfl, if_pos rfl]
      rcases ltL_tri as bs with h | h | h
      · exact .inl h
      · exact .inr (.inl (by rw [h]))
      · exact .inr (.inr h)
    · rw [if_neg e, if_neg (fun z => e z.symm)]
      rcases SO.tri a b with h | h | h
      · exact .inl h
      · exact absurd h e
      · exact .inr (.inr h)
instance : SO (List α) := ⟨ltL, ltL_irr, ltL_tr, ltL_tri⟩
def ltP (a b : α × β) : Bool := if a.1 = b.1 then SO.lt a.2 b.2 else SO.lt a.1 b.1
instance instSOP : SO (α × β) := ⟨ltP, fun a => by unfold ltP; rw [if_pos rfl]; exact SO.irr _, fun a b c h1 h2 => by
  unfold ltP at *
  by_cases e1 : a.1 = b.1
  · rw [if_pos e1] at h1
    rw [e1]
    by_cases e2 : b.1 = c.1
    · rw [if_pos e2] at h2 ⊢; exact SO.tr _ _ _ h1 h2
    · rw [if_neg e2] at h2 ⊢; exact h2
  · rw [if_neg e1] at h1
    by_cases e2 : b.1 = c.1
    · rw [← e2, if_neg e1]; exact h1
    · rw [if_neg e2] at h2
      have h3 := SO.tr _ _ _ h1 h2
      by_cases e3 : a.1 = c.1
      · rw [e3, SO.irr] at h3; cases h3
      · rw [if_neg e3]; exact h3, fun a b => by
  unfold ltP
  by_cases e : a.1 = b.1
  · rw [if_pos e, if_pos e.symm]
    rcases SO.tri a.2 b.2 with h | h | h
    · exact .inl h
    · exact .inr (.inl (Prod.ext e h))
    · exact .inr (.inr h)
  · rw [if_neg e, if_neg (fun z => e z.symm)]
    rcases SO.tri a.1 b.1 with h | h | h
    · exact .inl h
    · exact absurd h e
    · exact .inr (.inr h)⟩
end
/-- a type that is ordered as another one, by an injection -/
@[reducible] def SO.via {α β : Type} [SO β] (f : α → β) (h : ∀ a b, f a = f b → a = b) : SO α := ⟨fun a b => SO.lt (f a) (f b), fun a => SO.irr _, fun a b c => SO.tr _ _ _, fun a b => (SO.tri (f a) (f b)).imp id fun z => z.imp (h a b) id⟩
instance : SO Str := SO.via (fun x : Str => x.cps.toList) fun a b h => str_ext h
/-- integers before words -/
def Val.o : Val → Int × List Nat
  | .i n => (n, [])
  | .s x => (0, x.cps.toList)
def ltV : Val → Val → Bool
  | .i m, .i n => decide (m < n)
  | .i _, .s _ => true
  | .s _, .i _ => false
  | .s x, .s y => SO.lt x y
instance : SO Val := ⟨ltV, fun a => by cases a <;> simp [ltV, SO.irr], fun a b c => by
  cases a <;> cases b <;> cases c <;> simp [ltV]
  · omega
  · exact SO.tr _ _ _, fun a b => by
  cases a <;> cases b <;> simp [ltV]
  · omega
  · exact SO.tri _ _⟩

/-! ### ascending lists -/
section
variable {α : Type} [SO α]
def Asc (xs : List α) : Prop := xs.Pairwise fun a b => SO.lt a b = true
theorem Asc.nodup {xs : List α} (h : Asc xs) : xs.Nodup := List.Pairwise.imp (fun {a b} (h : SO.lt a b = true) e => by rw [e, SO.irr] at h; cases h) h
/-- two ascending lists of the same members are one -/
theorem asc_unique : ∀ {xs ys : List α}, Asc xs → Asc ys → (∀ x, x ∈ xs ↔ x ∈ ys) → xs = ys
  | [], [], _, _, _ => rfl
  | [], y :: ys, _, _, h => by have := (h y).mpr (by simp); cases this
  | x :: xs, [], _, _, h => by have := (h x).mp (by simp); cases this
  | x :: xs, y :: ys, hx, hy, h => by
    have hx' := List.pairwise_cons.mp hx
    have hy' := List.pairwise_cons.mp hy
    have e : x = y := by
      rcases List.mem_cons.mp ((h x).mp (by simp)) with e | m
      · exact e
      · rcases List.mem_cons.mp ((h y).mpr (by simp)) with e | m'
        · exact e.symm
        · have h1 := hy'.1 x m
          have h2 := hx'.1 y m'
          rw [SO.asym h1] at h2; cases h2
    subst e
    rw [asc_unique hx'.2 hy'.2 fun z => ?_]
    constructor
    · intro m
      rcases List.mem_cons.mp ((h z).mp (List.mem_cons_of_mem _ m)) with e | m'
      · subst e; have := hx'.1 z m; rw [SO.irr] at this; cases this
      · exact m'
    · intro m
      rcases List.mem_cons.mp ((h z).mpr (List.mem_cons_of_mem _ m)) with e | m'
      · subst e; have := hy'.1 z m; rw [SO.irr] at this; cases this
      · exact m'
theorem Asc.filter {xs : List α} (p : α → Bool) (h : Asc xs) : Asc (xs.filter p) := List.Pairwise.filter p h
theorem Asc.sub {xs ys : List α} (s : ys.Sublist xs) (h : Asc xs) : Asc ys := List.Pairwise.sublist s h
/-- sorted, with repetitions -/
def Srt (xs : List α) : Prop := xs.Pairwise fun a b => SO.lt b a = false
theorem Asc.srt {xs : List α} (h : Asc xs) : Srt xs := List.Pairwise.imp (fun h => SO.asym h) h
theorem Srt.asc {xs : List α} (h : Srt xs) (n : xs.Nodup) : Asc xs := by
  unfold Asc
  refine List.Pairwise.imp₂ (R := fun a b => SO.lt b a = false) (S := fun a b => a ≠ b) (fun a b h1 h2 => ?_) h n
  rcases SO.tri a b with h | h | h
  · exact h
  · exact absurd h h2
  · rw [h1] at h; cases h
theorem srt_unique {xs ys : List α} (hx : Srt xs) (hy : Srt ys) (h : xs.Perm ys) : xs = ys := List.Perm.eq_of_pairwise (le := fun a b => SO.lt b a = false) (fun a b _ _ h1 h2 => SO.eq_of h2 h1) hx hy h
end

/-! ### the order of data, by type -/
/-- a type whose keys are alike data in its order -/
class KeyE (α : Type) [SO α] where
  ek : α → PyData
  al : ∀ a b : α, PySem.W.alike (ek a) (ek b) = true
  eqv : ∀ a b : α, PyData.eqv (ek a) (ek b) = true ↔ a = b
  lt : ∀ a b : α, PySem.W.dataLt (ek a) (ek b) = SO.lt a b
  lv : Nat
  dep : ∀ a : α, (ek a).depth ≤ lv
  nd : ∀ a : α, noDct (ek a) = true
theorem lt_nats : ∀ a b : List Nat, decide (a < b) = ltL a b
  | _, [] => by simp [ltL]
  | [], _ :: _ => by simp [ltL]
  | a :: as, b :: bs => by
    rw [ltL, ← lt_nats as bs]
    by_cases e : a = b
    · subst e; simp
    · rw [if_neg e]
      show _ = decide (a < b)
      rw [decide_eq_decide, List.cons_lt_cons_iff]
      simp [e]
theorem str_eq_iff {a b : Str} : (a.cps.toList = b.cps.toList) ↔ a = b := ⟨str_ext, fun h => by rw [h]⟩
theorem lt_strs (a b : Str) : decide (a.cps.toList < b.cps.toList) = SO.lt a b := lt_nats _ _
instance : KeyE Str := ⟨.str, fun a b => by simp [PySem.W.alike], fun a b => by simp [PyData.eqv], fun a b => by rw [PySem.W.dataLt_str]; exact lt_strs a b, 0, (fun a => by simp [PyData.depth]), fun _ => rfl⟩
instance : KeyE Int := ⟨.int, fun a b => by simp [PySem.W.alike], fun a b => by simp [PyData.eqv], fun a b => by rw [PySem.W.dataLt_int]; rfl, 0, (fun a => by simp [PyData.depth]), fun _ => rfl⟩
def Val.k (v : Val) : PyData := valK v.d
theorem no_less : PyProof.Rows.lexLt itemOrd (PySem.W.keyToksAll []) (PySem.W.keyToksAll []) = false := PyProof.Rows.lex_irrefl _
instance : KeyE Val := ⟨Val.k, fun a b => by cases a <;> cases b <;> simp [Val.k, Val.d, valK, PySem.W.alike, PySem.W.alikeAll], fun a b => by
  cases a <;> cases b <;> simp [Val.k, Val.d, valK, PyData.eqv, PyData.eqvAll], fun a b => by
  have nl := no_less
  have e1 : PySem.W.alike (.int 0) (.int 1) = true := by simp [PySem.W.alike]
  cases a with
  | i m =>
    cases b with
    | i n =>
      show PySem.W.dataLt (.tuple [.int 0, .int m, .str _]) (.tuple [.int 0, .int n, .str _]) = decide (m < n)
      rw [PySem.W.dataLt_tuple, PySem.W.dataLt_cons rfl, PySem.W.dataLt_cons rfl, PySem.W.dataLt_cons rfl, PySem.W.dataLt_int, nl]
      by_cases e : m = n
      · subst e; simp [PyData.eqv]
      · simp [PyData.eqv, e]
    | s x =>
      show PySem.W.dataLt (.tuple [.int 0, .int m, .str _]) (.tuple [.int 1, .int 0, .str x]) = true
      rw [PySem.W.dataLt_tuple, PySem.W.dataLt_cons rfl, PySem.W.dataLt_int]
      simp [PyData.eqv]
  | s x =>
    cases b with
    | i n =>
      show PySem.W.dataLt (.tuple [.int 1, .int 0, .str x]) (.tuple [.int 0, .int n, .str _]) = false
      rw [PySem.W.dataLt_tuple, PySem.W.dataLt_cons rfl, PySem.W.dataLt_int]
      simp [PyData.eqv]
    | s y =>
      show PySem.W.dataLt (.tuple [.int 1, .int 0, .str x]) (.tuple [.int 1, .int 0, .str y]) = SO.lt x y
      rw [PySem.W.dataLt_tuple, PySem.W.dataLt_cons rfl, PySem.W.dataLt_cons rfl, PySem.W.dataLt_cons rfl, PySem.W.dataLt_str, nl, lt_strs]
      by_cases e : x = y
      · subst e; simp [PyData.eqv, SO.irr]
      · simp [PyData.eqv, e], 1, (fun a => by cases a <;> simp [Val.k, Val.d, valK, PyData.depth, PyData.depthAll]), fun a => by cases a <;> rfl⟩
section
variable {α β : Type} [SO α] [KeyE α] [SO β] [KeyE β] [DecidableEq α]
theorem alikeAll_ek : ∀ xs ys : List α, PySem.W.alikeAll (xs.map KeyE.ek) (ys.map KeyE.ek) = true
  | [], _ => by simp [PySem.W.alikeAll]
  | _ :: _, [] => by simp [PySem.W.alikeAll]
  | x :: xs, y :: ys => by rw [List.map_cons, List.map_cons, PySem.W.alikeAll, KeyE.al, alikeAll_ek xs ys]; rfl
theorem eqvAll_ek : ∀ xs ys : List α, PyData.eqvAll (xs.map KeyE.ek) (ys.map KeyE.ek) = true ↔ xs = ys
  | [], [] => by simp [PyData.eqvAll]
  | [], _ :: _ => by simp [PyData.eqvAll]
  | _ :: _, [] => by simp [PyData.eqvAll]
  | x :: xs, y :: ys => by
    rw [List.map_cons, List.map_cons, PyData.eqvAll, Bool.and_eq_true, KeyE.eqv, eqvAll_ek xs ys]
    simp
theorem nil_first (y : PyData) (ys : List PyData) : PyProof.Rows.lexLt itemOrd (PySem.W.keyToksAll []) (PySem.W.keyToksAll (y :: ys)) = true := by
  rw [PySem.W.keyToksAll, PySem.W.keyToksAll]
  exact (PyProof.Rows.lex_diff (O := itemOrd) (by simp)).trans (by rfl)
theorem nil_last (x : PyData) (xs : List PyData) : PyProof.Rows.lexLt itemOrd (PySem.W.keyToksAll (x :: xs)) (PySem.W.keyToksAll []) = false := by
  rw [PySem.W.keyToksAll, PySem.W.keyToksAll]
  exact (PyProof.Rows.lex_diff (O := itemOrd) (by simp)).trans (by rfl)
theorem lexLt_ek : ∀ xs ys : List α, PyProof.Rows.lexLt itemOrd (PySem.W.keyToksAll (xs.map KeyE.ek)) (PySem.W.keyToksAll (ys.map KeyE.ek)) = ltL xs ys
  | [], [] => by rw [ltL]; exact no_less
  | [], y :: ys => by rw [ltL]; exact nil_first _ _
  | x :: xs, [] => by rw [ltL]; exact nil_last _ _
  | x :: xs, y :: ys => by
    rw [List.map_cons, List.map_cons, PySem.W.dataLt_cons (KeyE.al x y), ltL, lexLt_ek xs ys, KeyE.lt]
    by_cases e : x = y
    · rw [if_pos e, if_pos ((KeyE.eqv x y).mpr e)]
    · rw [if_neg e, if_neg (fun z => e ((KeyE.eqv x y).mp z))]
instance : KeyE (List α) := ⟨fun xs => .tuple (xs.map KeyE.ek), fun a b => by rw [PySem.W.alike]; exact alikeAll_ek a b, fun a b => by rw [PyData.eqv]; exact eqvAll_ek a b, fun a b => by rw [PySem.W.dataLt_tuple]; exact lexLt_ek a b, KeyE.lv α + 1, fun a => by
  have := depthAll_le (n := KeyE.lv α) (xs := a.map KeyE.ek) fun x hx => by
    obtain ⟨y, _, rfl⟩ := List.mem_map.mp hx
    exact KeyE.dep y
  simp only [PyData.depth]; omega, fun a => noDict_tuple fun x hx => by
  obtain ⟨y, _, rfl⟩ := List.mem_map.mp hx
  exact KeyE.nd y⟩
instance : KeyE (α × β) := ⟨fun p => .tuple [KeyE.ek p.1, KeyE.ek p.2], fun a b => by rw [PySem.W.alike, PySem.W.alikeAll, PySem.W.alikeAll, PySem.W.alikeAll, KeyE.al, KeyE.al]; rfl, fun a b => by
  rw [PyData.eqv, PyData.eqvAll, PyData.eqvAll, PyData.eqvAll, Bool.and_true, Bool.and_eq_true, KeyE.eqv, KeyE.eqv]
  simp [Prod.ext_iff], fun a b => by
  rw [PySem.W.dataLt_pair (KeyE.al _ _) (KeyE.al _ _), KeyE.lt, KeyE.lt]
  show _ = ltP a b
  unfold ltP
  by_cases e : a.1 = b.1
  · rw [if_pos e, if_pos ((KeyE.eqv _ _).mpr e)]
    by_cases e2 : a.2 = b.2
    · rw [if_pos ((KeyE.eqv _ _).mpr e2), e2, SO.irr]
    · rw [if_neg (fun z => e2 ((KeyE.eqv _ _).mp z))]
  · rw [if_neg e, if_neg (fun z => e ((KeyE.eqv _ _).mp z))], max (KeyE.lv α) (KeyE.lv β) + 1, fun a => by
  have h1 := KeyE.dep a.1
  have h2 := KeyE.dep a.2
  simp only [PyData.depth, PyData.depthAll]; omega, fun a => noDict_tuple fun x hx => by
  simp at hx
  rcases hx with e | e <;> subst e <;> exact KeyE.nd _⟩
end
end DL
/-! ### sorted by a key -/
namespace DL
open PySem PySem.Spec PyProof.Rows L2
theorem dataLe_eq {β : Type} (k : β → PyData) (a b : β) : PySem.W.dataLe false k a b = !PySem.W.dataLt (k b) (k a) := rfl
theorem general_lt (x y : Value) : PyProof.Rows.keyLt' PyProof.Rows.general' x y = PyProof.Rows.oneLt' false x y := rfl
section
variable {α : Type} [DecidableEq α] [Enc α] [SO α] [KeyE α]
/-- what Python asks of the keys: none is an empty tuple, or there is one item alone -/
def KeysOk (ks : List PyData) : Prop := PySem.W.Sortable ks ∨ ks.length ≤ 1
theorem each_of {β : Type} {R : Value → β → Prop} : ∀ {us : List Value} {bs : List β}, PySem.W.EachIs R us bs → us.length = bs.length
  | _, _, .nil => rfl
  | _, _, .cons _ t => by rw [List.length_cons, List.length_cons, each_of t]
theorem allAlike_ek (xs : List α) : PySem.W.AllAlike (xs.map KeyE.ek) := fun d hd d' hd' => by
  obtain ⟨a, _, rfl⟩ := List.mem_map.mp hd
  obtain ⟨b, _, rfl⟩ := List.mem_map.mp hd'
  exact KeyE.al a b
theorem sortedBy_ek (xs : List α) (k : PyData → PyData) (hk : ∀ x ∈ xs, k (Enc.d x) = KeyE.ek x) (ok : KeysOk (xs.map KeyE.ek)) (nn : ∀ x ∈ xs, (KeyE.ek x : PyData) ≠ .none) (hl : KeyE.lv α ≤ 60 := by decide) : SortedBy (xs.map Enc.d) k k := by
  intro prog w A s ks hu hr hc
  have e1 : (xs.map Enc.d).map k = xs.map KeyE.ek := by
    rw [List.map_map]
    exact List.map_congr_left fun x hx => hk x hx
  rw [e1] at hr
  have hal := allAlike_ek xs
  have hdep : ∀ d ∈ xs.map (KeyE.ek (α := α)), A.units + d.depth < cLine := fun d hd => by
    obtain ⟨a, _, rfl⟩ := List.mem_map.mp hd
    have := KeyE.dep a
    omega
  have each : PySem.W.EachIs (fun v b => (PySem.W.dataKind s.heap (xs.map KeyE.ek)).keyOf v = some (PySem.W.keyToks (k b))) ks (xs.map Enc.d) := by
    have go : ∀ (gs : List α) (us : List Value), (∀ g ∈ gs, g ∈ xs) → PySem.W.EachIs (fun u d => ∃ as, Reads s.heap u d as) us (gs.map KeyE.ek) → PySem.W.EachIs (fun v b => (PySem.W.dataKind s.heap (xs.map KeyE.ek)).keyOf v = some (PySem.W.keyToks (k b))) us (gs.map Enc.d) := by
      intro gs
      induction gs with
      | nil => intro us _ e; cases e; exact .nil
      | cons g gs ih =>
        intro us m e
        cases e with
        | cons e1 e2 =>
          obtain ⟨as, r⟩ := e1
          have mg := m g (by simp)
          exact .cons (by rw [hk g mg]; exact PySem.W.dataKind_some hal (List.mem_map.mpr ⟨g, mg, rfl⟩) r) (ih _ (fun x hx => m x (List.mem_cons_of_mem _ hx)) e2)
    exact go xs ks (fun _ m => m) hr
  refine ⟨(PySem.W.dataKind s.heap (xs.map KeyE.ek)).keyOf, ?_, each⟩
  rcases ok with ok | ok
  · exact PySem.W.SortsAt.data hr hal ok hdep
  · refine ⟨fun v hv => ?_, PyProof.Rows.general', ?_, fun h2 => ?_⟩
    · obtain ⟨b, _, hb⟩ := each.left v hv
      exact ⟨_, hb⟩
    · intro E x y a b Q ha hb hq
      obtain ⟨d, as, hd, ra, rfl⟩ := PySem.W.dataKind_inv ha
      obtain ⟨d', as', hd', rb, rfl⟩ := PySem.W.dataKind_inv hb
      rw [general_lt]
      refine PySem.W.oneLt_alike (fun z => by cases z) ra rb (hal d hd d' hd') ?_ (Nat.lt_of_le_of_lt (Nat.add_le_add_left (Nat.min_le_left _ _) _) (hdep d hd)) hq
      obtain ⟨x, hx, rfl⟩ := List.mem_map.mp hd
      exact nn x hx
    · have := each_of hr
      omega
end
@[irreducible] def sortKR (spd : Spd) (ws : List W) (Q : W → Prop) : Prop := gSortK spd ws Q
def dSortKN (spd : Spd) (u : TAd) : TEd := fun ρ Q => u ρ fun ws => sortKR spd ws Q
theorem dSortKN_eq (spd : Spd) (u : TAd) : dSortKN spd u = dSortK spd u := by funext ρ Q; unfold dSortKN dSortK sortKR; rfl
theorem d_sortKN {X : Cx} {Z : Wish} {e : Expr} {spd : Spd} {u : TAd} (h : PD X Z e (dSortK spd u)) : PD X Z e (dSortKN spd u) := by rw [dSortKN_eq]; exact h
section
variable {α : Type} [DecidableEq α] [Enc α] [SO α] {Q : W → Prop} {spd : Spd} {w : W} {xs : List α}
open Classical in
/-- the key by the data of an item -/
noncomputable def keyBy (f : α → PyData) (p : PyData) : PyData := if h : ∃ a : α, Enc.d a = p then f h.choose else p
theorem keyBy_at (f : α → PyData) (a : α) : keyBy f (Enc.d a) = f a := by
  have h : ∃ b : α, Enc.d b = Enc.d a := ⟨a, rfl⟩
  unfold keyBy
  rw [dif_pos h, Enc.inj h.choose_spec]
/-- sorted by a key whose order is that of the type -/
theorem sortKR_gen (k e : PyData → PyData) (hw : asL w = some (xs.map Enc.d)) (hs : ∀ x ∈ xs, ∀ K : W → Prop, K (.d (k (Enc.d x))) → spd [argW (.d (Enc.d x))] K fun _ _ => False) (hnd : ∀ x ∈ xs, noDct (k (Enc.d x)) = true) (hb : SortedBy (xs.map Enc.d) k e)
    (hl : ∀ a ∈ xs, ∀ b ∈ xs, PySem.W.dataLt (e (Enc.d a)) (e (Enc.d b)) = SO.lt a b) (q : ∀ ys : List α, ys.Perm xs → Srt ys → Q (.l (ys.map Enc.d))) : sortKR spd [w] Q := by
  unfold sortKR
  refine ⟨xs.map Enc.d, k, e, hw, fun x hx => ?_, fun x hx => ?_, hb, ?_⟩
  · obtain ⟨a, ha, rfl⟩ := List.mem_map.mp hx
    exact hs a ha _ rfl
  · obtain ⟨a, ha, rfl⟩ := List.mem_map.mp hx
    exact hnd a ha
  · have e1 : (xs.map Enc.d).mergeSort (PySem.W.dataLe false e) = (xs.mergeSort fun a b => !SO.lt b a).map Enc.d := by
      rw [List.map_mergeSort]
      intro a ha b hb
      rw [dataLe_eq, hl b hb a ha]
    rw [e1]
    refine q _ (List.mergeSort_perm ..) ?_
    have tr : ∀ a b c : α, (!SO.lt b a) = true → (!SO.lt c b) = true → (!SO.lt c a) = true := fun a b c h1 h2 => by
      rw [Bool.not_eq_true'] at h1 h2 ⊢
      rcases SO.tri a b with h | h | h
      · rcases SO.tri b c with h' | h' | h'
        · exact SO.asym (SO.tr _ _ _ h h')
        · subst h'; exact SO.asym h
        · rw [h2] at h'; cases h'
      · subst h; exact h2
      · rw [h1] at h; cases h
    have to : ∀ a b : α, ((!SO.lt b a) || (!SO.lt a b)) = true := fun a b => by
      cases e : SO.lt b a with
      | false => rfl
      | true => rw [SO.asym e]; rfl
    refine List.Pairwise.imp (fun h => ?_) (List.pairwise_mergeSort tr to xs)
    simpa using h
theorem sortKR_ek [KeyE α] (hs : ∀ x ∈ xs, ∀ K : W → Prop, K (.d (KeyE.ek x)) → spd [argW (.d (Enc.d x))] K fun _ _ => False) (ok : KeysOk (xs.map KeyE.ek)) (nn : ∀ x ∈ xs, (KeyE.ek x : PyData) ≠ .none) (q : ∀ ys : List α, ys.Perm xs → Srt ys → Q (.l (ys.map Enc.d)))
    (hw : asL w = some (xs.map Enc.d) := by rfl) (hl : KeyE.lv α ≤ 60 := by decide) : sortKR spd [w] Q :=
  sortKR_gen (keyBy KeyE.ek) (keyBy KeyE.ek) hw (fun x hx K hK => hs x hx K (by rw [keyBy_at] at hK; exact hK)) (fun x _ => by rw [keyBy_at]; exact KeyE.nd x) (sortedBy_ek xs _ (fun x _ => keyBy_at _ x) ok nn hl) (fun a _ b _ => by rw [keyBy_at, keyBy_at, KeyE.lt]) q
end
/-- facts, as the law's key sorts them -/
def fcOf (f : Fact) : Fc := ⟨f.1, f.2.map Enc.d⟩
theorem fcOf_d (f : Fact) : fD (fcOf f) = Enc.d f := rfl
theorem isIS_val (v : Val) : isIS (Enc.d v) = true := by cases v <;> rfl
theorem fcOf_is (f : Fact) : ∀ y ∈ (fcOf f).row, isIS y = true := fun y hy => by
  obtain ⟨v, _, rfl⟩ := List.mem_map.mp hy
  exact isIS_val v
theorem factE_ek (f : Fact) : factE (Enc.d f) = .tuple [.str f.1, .list (f.2.map KeyE.ek)] := by
  show PyData.tuple [.str f.1, .list ((f.2.map Enc.d).map valK)] = _
  rw [List.map_map]; rfl
theorem factE_lt (a b : Fact) : PySem.W.dataLt (factE (Enc.d a)) (factE (Enc.d b)) = SO.lt a b := by
  have h := KeyE.lt a b
  rw [factE_ek, factE_ek, ← h]
  rfl
theorem factK_nd (f : Fact) : noDct (factK (Enc.d f)) = true := by
  show noDct (.tuple [.str f.1, .list ((f.2.map Enc.d).map keyV)]) = true
  rw [List.map_map]
  refine noDict_tuple fun x hx => ?_
  simp at hx
  rcases hx with e | e
  · subst e; rfl
  · subst e
    exact noDict_list fun y hy => by
      obtain ⟨v, _, rfl⟩ := List.mem_map.mp hy
      cases v <;> rfl
theorem sortKR_law {Q : W → Prop} {spd : Spd} {w : W} {xs : List Fact} (hs : ∀ x ∈ xs, ∀ K : W → Prop, K (.d (factK (Enc.d x))) → spd [argW (.d (Enc.d x))] K fun _ _ => False) (q : ∀ ys : List Fact, ys.Perm xs → Srt ys → Q (.l (ys.map Enc.d)))
    (hw : asL w = some (xs.map Enc.d) := by rfl) : sortKR spd [w] Q := by
  refine sortKR_gen factK factE hw hs (fun x _ => factK_nd x) ?_ (fun a _ b _ => factE_lt a b) q
  have := sortedBy_facts (fs := xs.map fcOf) fun f hf => by
    obtain ⟨g, _, rfl⟩ := List.mem_map.mp hf
    exact fcOf_is g
  rwa [List.map_map] at this
end DL
namespace DL
open PySem PySem.Spec PyProof.Rows L2
section
variable {α : Type} [SO α]
theorem asc_snoc {xs : List α} {x : α} (h : Asc xs) (hx : ∀ y ∈ xs, SO.lt y x = true) : Asc (xs ++ [x]) := by
  unfold Asc
  rw [List.pairwise_append]
  exact ⟨h, List.pairwise_singleton .., fun a ha b hb => by rw [List.mem_singleton.mp hb]; exact hx a ha⟩
theorem srt_before {pre post ys : List α} {x y : α} (h : Srt ys) (e : ys = pre ++ x :: post) (hy : y ∈ pre) : SO.lt x y = false := by
  subst e
  unfold Srt at h
  rw [List.pairwise_append] at h
  exact h.2.2 y hy x (by simp)
end
end DL
namespace DL
open PySem PySem.Spec PyProof.Rows L2
theorem rd_d (x : PyData) : rd (.d x) = .d x := rfl
theorem rd_l (x : List PyData) : rd (.l x) = .r x := rfl
theorem rd_b (x : List PyData) : rd (.b x) = .b x := rfl
theorem rd_w : rd .drw = .drw := rfl
section
variable {α : Type} [DecidableEq α] [Enc α] {Q : W → Prop}
theorem inX_s0 {i j : Str} (h : Q (.d (.bool (subS i j)))) : inX false (.d (.str i)) (.d (.str j)) Q := inX_str h
theorem inX_s1 {i j : Str} (h : Q (.d (.bool (!subS i j)))) : inX true (.d (.str i)) (.d (.str j)) Q := inX_str h
theorem inX_l0 {x y : W} {a : α} {xs : List α} (h : Q (.d (.bool (decide (a ∈ xs))))) (e1 : asD x = some (Enc.d a) := by rfl) (e2 : asL y = some (xs.map Enc.d) := by rfl) (hl : Enc.lvl α ≤ 63 := by decide) : inX false x y Q := inX_l h e1 e2 hl
theorem inX_l1 {x y : W} {a : α} {xs : List α} (h : Q (.d (.bool (!decide (a ∈ xs))))) (e1 : asD x = some (Enc.d a) := by rfl) (e2 : asL y = some (xs.map Enc.d) := by rfl) (hl : Enc.lvl α ≤ 63 := by decide) : inX true x y Q := inX_l h e1 e2 hl
theorem inX_t0 {x : W} {a : α} {xs : List α} (h : Q (.d (.bool (decide (a ∈ xs))))) (e1 : asD x = some (Enc.d a) := by rfl) (hl : Enc.lvl α ≤ 63 := by decide) : inX false x (.d (Enc.d xs)) Q := inX_t (xs := xs) h e1 hl
theorem inX_t1 {x : W} {a : α} {xs : List α} (h : Q (.d (.bool (!decide (a ∈ xs))))) (e1 : asD x = some (Enc.d a) := by rfl) (hl : Enc.lvl α ≤ 63 := by decide) : inX true x (.d (Enc.d xs)) Q := inX_t (xs := xs) h e1 hl
theorem inX_u0 {a : α} {xs : List α} (h : Q (.d (.bool (decide (a ∈ xs))))) (hl : Enc.lvl α ≤ 63 := by decide) : inX false (.d (Enc.d a)) (.r (xs.map Enc.d)) Q := inX_l h rfl rfl hl
theorem inX_u1 {a : α} {xs : List α} (h : Q (.d (.bool (!decide (a ∈ xs))))) (hl : Enc.lvl α ≤ 63 := by decide) : inX true (.d (Enc.d a)) (.r (xs.map Enc.d)) Q := inX_l h rfl rfl hl
theorem inX_v0 {a : α} {xs : List α} (h : Q (.d (.bool (decide (a ∈ xs))))) (hl : Enc.lvl α ≤ 63 := by decide) : inX false (.d (Enc.d a)) (.b (xs.map Enc.d)) Q := inX_l h rfl rfl hl
theorem inX_v1 {a : α} {xs : List α} (h : Q (.d (.bool (!decide (a ∈ xs))))) (hl : Enc.lvl α ≤ 63 := by decide) : inX true (.d (Enc.d a)) (.b (xs.map Enc.d)) Q := inX_l h rfl rfl hl
end
end DL
namespace DL
open PySem PySem.Spec PyProof.Rows L2
section
variable {α β : Type} [DecidableEq β] [Enc β] {xs : List α} {en : α → PyData} {g : TGd} {c : TTd} {elt : TEd} {vs : List Nat} {ρ : En} {Q : W → Prop}
/-- each turn makes an item of P -/
theorem lcR_each (P : β → Prop) (h : ∀ x ∈ xs, ∀ (k : PyData → Prop) (z : Prop), (∀ b : β, P b → k (Enc.d b)) → g (en x) (wipeD ρ vs) fun ρ' => c ρ' fun b => iB b (elt ρ' fun w => onFw w fun y => k y) z)
    (q : ∀ r : List β, r.length = xs.length → (∀ b ∈ r, P b) → Q (.l (r.map Enc.d))) : lcR (xs.map en) g c elt vs ρ Q := by
  refine lcR_inv (fun pre acc => ∃ r : List β, acc = r.map Enc.d ∧ r.length = pre.length ∧ ∀ b ∈ r, P b) ⟨[], rfl, rfl, fun b hb => by cases hb⟩ (fun pre x post acc e ha => ?_) fun acc ⟨r, e1, e2, e3⟩ => by rw [e1]; exact q r e2 e3
  obtain ⟨r, rfl, e2, e3⟩ := ha
  have hx : x ∈ xs := by rw [e]; simp
  refine h x hx (fun y => ∃ r' : List β, r.map Enc.d ++ [y] = r'.map Enc.d ∧ r'.length = (pre ++ [x]).length ∧ ∀ b ∈ r', P b) _ fun b hb => ⟨r ++ [b], by rw [List.map_append]; rfl, by rw [List.length_append, List.length_append, e2]; rfl, fun z hz => ?_⟩
  rcases List.mem_append.mp hz with m | m
  · exact e3 z m
  · rw [List.mem_singleton.mp m]; exact hb
/-- the same over a range -/
theorem lcR_eachN {n : Nat} {lo : Int} (P : β → Prop) (h : ∀ i < n, ∀ (k : PyData → Prop) (z : Prop), (∀ b : β, P b → k (Enc.d b)) → g (.int (lo + (i : Nat))) (wipeD ρ vs) fun ρ' => c ρ' fun b => iB b (elt ρ' fun w => onFw w fun y => k y) z)
    (q : ∀ r : List β, r.length = n → (∀ b ∈ r, P b) → Q (.l (r.map Enc.d))) : lcR (rngD lo n) g c elt vs ρ Q :=
  lcR_each (xs := List.range n) P (fun i hi k z hk => h i (List.mem_range.mp hi) k z hk) fun r hr hp => q r (by rw [hr, List.length_range]) hp
end
theorem allm {α β : Type} {f : α → β} {xs : List α} {P : β → Prop} (h : ∀ a ∈ xs, P (f a)) : ∀ y ∈ xs.map f, P y := fun y hy => by
  obtain ⟨a, ha, rfl⟩ := List.mem_map.mp hy
  exact h a ha
theorem lenm {α β : Type} {f : α → β} {xs : List α} (h : 0 < xs.length) : 0 < (xs.map f).length := by rw [List.length_map]; exact h
/-- a loop over a range: the turn by its number -/
theorem forR_n {S : Type} {lo : Int} {n : Nat} {g : TGd} {body : TSd} {D : Dn} {ρ : En} (e : S → En) (I : Nat → S → Prop) (s0 : S) (h0 : ρ = e s0) (i0 : I 0 s0)
    (h : ∀ i s, i < n → I i s → g (.int (lo + (i : Nat))) (e s) fun ρ2 => body { D with nx := fun ρ' => ∃ s', ρ' = e s' ∧ I (i + 1) s', ct := fun ρ' => ∃ s', ρ' = e s' ∧ I (i + 1) s', bk := D.nx } ρ2)
    (q : ∀ s, I n s → D.nx (e s)) : forR (rngD lo n) g body D ρ := by
  unfold forR
  refine ⟨fun i ρ' => ∃ s, ρ' = e s ∧ I i s, ⟨s0, h0, i0⟩, fun i y ρ' hy hs => ?_, fun ρ' hs => ?_⟩
  · obtain ⟨s, rfl, hs⟩ := hs
    obtain ⟨hi, rfl⟩ := rngD_some hy
    exact h i s hi hs
  · obtain ⟨s, rfl, hs⟩ := hs
    rw [rngD_len] at hs
    exact q s hs
/-- a value that is right -/
def Val.ok : Val → Bool
  | .i _ => true
  | .s x => isW x
/-- the fact fits the schema -/
def FitT (ts : List Tb) (f : Fact) : Prop := (∃ t, findT ts f.1 = some t ∧ f.2.length = t.k + t.r) ∧ ∀ v ∈ f.2, v.ok = true
theorem FitT.has {ts : List Tb} {f : Fact} (h : FitT ts f) : hasT ts f := let ⟨⟨t, a, _⟩, _⟩ := h; ⟨t, a⟩
end DL
namespace DL
open PySem PySem.Spec PyProof.Rows L2
theorem nodup_len {α : Type} [DecidableEq α] : ∀ {xs ys : List α}, xs.Nodup → (∀ x ∈ xs, x ∈ ys) → xs.length ≤ ys.length
  | [], _, _, _ => Nat.zero_le _
  | x :: xs, ys, nd, h => by
    have nd' := List.nodup_cons.mp nd
    have hx := h x (by simp)
    have := nodup_len (xs := xs) (ys := ys.erase x) nd'.2 fun z hz => (List.mem_erase_of_ne (fun e : z = x => nd'.1 (by rw [← e]; exact hz))).mpr (h z (List.mem_cons_of_mem _ hz))
    rw [List.length_erase_of_mem hx] at this
    have := List.length_pos_of_mem hx
    rw [List.length_cons]; omega
theorem asc_len {α : Type} [SO α] [DecidableEq α] {xs ys : List α} (h : Asc xs) (hs : ∀ x ∈ xs, x ∈ ys) : xs.length ≤ ys.length := nodup_len h.nodup hs
theorem atI_in' {xs : List PyData} {r : Int} (h0 : 0 ≤ r) (h1 : r < xs.length) : ∃ d, atI xs r = some d ∧ d ∈ xs := by
  obtain ⟨n, rfl⟩ := Int.eq_ofNat_of_zero_le h0
  have hn : n < xs.length := by omega
  exact ⟨xs[n], atI_nat (List.getElem?_eq_getElem hn), List.getElem_mem hn⟩
end DL
namespace DL
open PySem PySem.Spec PyProof.Rows L2
section
variable {α : Type} [DecidableEq α] [Enc α] {Q : W → Prop}
/-- same(a, b): n bounds the depth -/
@[irreducible] def sameR (n : Nat) (a b : W) (Q : W → Prop) : Prop := ∃ x y, asA a = some x ∧ asA b = some y ∧ noDict x = true ∧ noDict y = true ∧ y.depth < n ∧ Q (.d (.bool (sameB x y)))
theorem sameR_of {n : Nat} {a b : W} {Q : W → Prop} (h : ∃ x y, asA a = some x ∧ asA b = some y ∧ noDict x = true ∧ noDict y = true ∧ y.depth < n ∧ Q (.d (.bool (sameB x y)))) : sameR n a b Q := by unfold sameR; exact h
theorem sameR_un {n : Nat} {a b : W} {Q : W → Prop} (h : sameR n a b Q) : ∃ x y, asA a = some x ∧ asA b = some y ∧ noDict x = true ∧ noDict y = true ∧ y.depth < n ∧ Q (.d (.bool (sameB x y))) := by unfold sameR at h; exact h
theorem asA_enc (a : α) : asA (.d (Enc.d a)) = some (Enc.d a) := by
  have := argW_asA (noDict_ne (Enc.nd a))
  rwa [argW_enc] at this
theorem sameB_enc (a b : α) : sameB (Enc.d a) (Enc.d b) = decide (a = b) := by
  rw [Bool.eq_iff_iff, sameB_iff, decide_eq_true_eq]
  exact ⟨Enc.inj, fun e => by rw [e]⟩
theorem sameR_enc {a b : α} (h : Q (.d (.bool (decide (a = b))))) (hl : Enc.lvl α < 12 := by decide) : sameR 12 (.d (Enc.d a)) (.d (Enc.d b)) Q := by
  unfold sameR
  exact ⟨_, _, asA_enc a, asA_enc b, Enc.nd a, Enc.nd b, Nat.lt_of_le_of_lt (Enc.dep b) hl, by rw [sameB_enc]; exact h⟩
theorem sameR_list {a b : List α} (h : Q (.d (.bool (decide (a = b))))) (hl : Enc.lvl α < 11 := by decide) : sameR 12 (.b (a.map Enc.d)) (.b (b.map Enc.d)) Q := by
  unfold sameR
  refine ⟨_, _, rfl, rfl, noDict_list (noDict_map a), noDict_list (noDict_map b), ?_, ?_⟩
  · have := depthAll_map b
    simp only [PyData.depth]; omega
  · have e : sameB (.list (a.map Enc.d)) (.list (b.map Enc.d)) = decide (a = b) := by
      rw [Bool.eq_iff_iff, sameB_iff, decide_eq_true_eq]
      constructor
      · intro e
        injection e with e
        exact Enc.inj (α := List α) (congrArg PyData.tuple e)
      · intro e; rw [e]
    rw [e]; exact h
theorem sameR_none (h : Q (.d (.bool true))) : sameR 12 (.d .none) (.d .none) Q := by
  unfold sameR
  exact ⟨_, _, rfl, rfl, noDict_none, noDict_none, by simp [PyData.depth], by rw [sameB_self]; exact h⟩
/-- the two are one -/
theorem sameR_self {w : W} {x : PyData} (h : Q (.d (.bool true))) (e : asA w = some x) (nd : noDict x = true) (dp : x.depth < 12) : sameR 12 w w Q := by
  unfold sameR
  exact ⟨x, x, e, e, nd, nd, dp, by rw [sameB_self]; exact h⟩
theorem sameR_t {xs : List α} {b : List α} (h : Q (.d (.bool (decide (xs = b))))) (hl : Enc.lvl α < 11 := by decide) : sameR 12 (.d (.tuple (xs.map Enc.d))) (.d (Enc.d b)) Q := sameR_enc (a := xs) (b := b) h (by show Enc.lvl α + 1 < 12; omega)
theorem sameR_u {xs : List α} {b : List α} (h : Q (.d (.bool (decide (b = xs))))) (hl : Enc.lvl α < 11 := by decide) : sameR 12 (.d (Enc.d b)) (.d (.tuple (xs.map Enc.d))) Q := sameR_enc (a := b) (b := xs) h (by show Enc.lvl α + 1 < 12; omega)
theorem sameR_v {xs : List α} {b : List α} (h : Q (.d (.bool (decide (b = xs))))) (hl : Enc.lvl α < 11 := by decide) : sameR 12 (.d (.tuple (b.map Enc.d))) (.d (.tuple (xs.map Enc.d))) Q := sameR_enc (a := b) (b := xs) h (by show Enc.lvl α + 1 < 12; omega)
end
theorem cut_take {α : Type} [DecidableEq α] [Enc α] (xs : List α) (k : Nat) : DL.cutD (xs.map Enc.d) none (some (k : Int)) = (xs.take k).map Enc.d := by rw [cutD_take, List.map_take]
theorem cut_drop {α : Type} [DecidableEq α] [Enc α] (xs : List α) (k : Nat) : DL.cutD (xs.map Enc.d) (some (k : Int)) none = (xs.drop k).map Enc.d := by rw [cutD_drop, List.map_drop]
end DL
namespace DL
open PySem PySem.Spec PyProof.Rows L2
theorem tup_enc {α : Type} [DecidableEq α] [Enc α] (xs : List α) : PyData.tuple (xs.map Enc.d) = Enc.d xs := rfl
end DL
namespace DL
open PySem PySem.Spec PyProof.Rows L2
theorem rd_m (x : List (PyData × PyData)) : rd (.x (.m x)) = .x (.rm x) := rfl
theorem rd_rm (x : List (PyData × PyData)) : rd (.x (.bm x)) = .x (.bm x) := rfl
end DL
namespace DL
open PySem PySem.Spec PyProof.Rows L2
theorem asQ_arg {w : W} {xs : List PyData} (h : asQ w = some xs) : asQ (argW (rd w)) = some xs := by
  cases w with
  | d y => cases y <;> first | exact h | cases h
  | x y => cases h
  | _ => first | exact h | cases h
theorem okB_q {w : W} {xs : List PyData} (h : asQ w = some xs) : okB [rd .drw, rd w] = true := by
  cases w with
  | x y => cases h
  | _ => rfl
end DL

/-! DL17: dicts, their keys ints and texts, or tuples of any data. -/
namespace DL
open PySem PySem.Spec PyProof.Rows L2

/-! ### dicts by data: keys and values side by side -/
def sameKey (k kd : PyData) : Bool := decide (nkOf k = nkOf kd)
def dhas (ks : List PyData) (kd : PyData) : Bool := ks.any fun k => sameKey k kd
def dget {α : Type} : List PyData → List α → PyData → Option α
  | k :: ks, v :: vs, kd => if sameKey k kd = true then some v else dget ks vs kd
  | _, _, _ => none
def dset {α : Type} : List PyData → List α → PyData → α → List α
  | k :: ks, v :: vs, kd, x => (if sameKey k kd = true then x else v) :: dset ks vs kd x
  | _, vs, _, _ => vs
def dputK (ks : List PyData) (kd : PyData) : List PyData := if dhas ks kd = true then ks else ks ++ [kd]
def dputV {α : Type} (ks : List PyData) (vs : List α) (kd : PyData) (x : α) : List α := if dhas ks kd = true then dset ks vs kd x else vs ++ [x]
/-- d[k] = v -/
def dput (kvs : List (PyData × PyData)) (kd x : PyData) : List (PyData × PyData) := if dhas (dkeys kvs) kd = true then kvs.map (fun p => if sameKey p.1 kd = true then (p.1, x) else p) else kvs ++ [(kd, x)]
theorem dput_keys (kvs : List (PyData × PyData)) (kd x : PyData) : dkeys (dput kvs kd x) = dputK (dkeys kvs) kd := by
  unfold dput dputK
  by_cases e : dhas (dkeys kvs) kd = true
  · rw [if_pos e, if_pos e]
    unfold dkeys
    rw [List.map_map]
    refine List.map_congr_left fun p _ => ?_
    show (if sameKey p.1 kd = true then (p.1, x) else p).1 = p.1
    split <;> rfl
  · rw [if_neg e, if_neg e]; unfold dkeys; rw [List.map_append]; rfl
theorem dset_vals : ∀ (kvs : List (PyData × PyData)) (kd x : PyData), dvals (kvs.map (fun p => if sameKey p.1 kd = true then (p.1, x) else p)) = dset (dkeys kvs) (dvals kvs) kd x
  | [], _, _ => rfl
  | p :: kvs, kd, x => by
    have ih := dset_vals kvs kd x
    unfold dvals dkeys at ih ⊢
    rw [List.map_cons, List.map_cons, ih]
    show _ = (if sameKey p.1 kd = true then x else p.2) :: dset (kvs.map (·.1)) (kvs.map (·.2)) kd x
    split <;> rfl
theorem dput_vals (kvs : List (PyData × PyData)) (kd x : PyData) : dvals (dput kvs kd x) = dputV (dkeys kvs) (dvals kvs) kd x := by
  unfold dput dputV
  by_cases e : dhas (dkeys kvs) kd = true
  · rw [if_pos e, if_pos e]; exact dset_vals kvs kd x
  · rw [if_neg e, if_neg e]; unfold dvals; rw [List.map_append]; rfl
theorem dput_len (kvs : List (PyData × PyData)) (kd x : PyData) : (dput kvs kd x).length ≤ kvs.length + 1 := by
  unfold dput
  split
  · rw [List.length_map]; omega
  · rw [List.length_append]; simp
section
variable {K : KW} {G : Hp}
theorem IsAll.dset {kd : PyData} {v : V} {x : PyData} (hv : Is K G v x) : ∀ {ks : List PyData} {vs : List V} {ds : List PyData}, IsAll K G vs ds → IsAll K G (DL.dset ks vs kd v) (DL.dset ks ds kd x)
  | [], _, _, h => h
  | _ :: _, _, _, .nil => .nil
  | k :: ks, _, _, .cons a b => by
    unfold DL.dset
    split
    · exact .cons hv (IsAll.dset hv b)
    · exact .cons a (IsAll.dset hv b)
theorem IsAll.dputV {kd : PyData} {v : V} {x : PyData} (hv : Is K G v x) {ks : List PyData} {vs : List V} {ds : List PyData} (h : IsAll K G vs ds) : IsAll K G (DL.dputV ks vs kd v) (DL.dputV ks ds kd x) := by
  unfold DL.dputV
  split
  · exact IsAll.dset hv h
  · exact h.append (.one hv)
theorem IsAll.dget {kd : PyData} : ∀ {ks : List PyData} {vs : List V} {ds : List PyData} {x : PyData}, IsAll K G vs ds → DL.dget ks ds kd = some x → ∃ v, DL.dget ks vs kd = some v ∧ Is K G v x
  | [], _, _, _, _, h => by simp [DL.dget] at h
  | _ :: _, _, _, _, .nil, h => by simp [DL.dget] at h
  | k :: ks, _, _, x, .cons a b, h => by
    unfold DL.dget at h ⊢
    by_cases e : sameKey k kd = true
    · rw [if_pos e] at h ⊢; cases h; exact ⟨_, rfl, a⟩
    · rw [if_neg e] at h ⊢; exact IsAll.dget b h
theorem IsAll.dgetN {kd : PyData} : ∀ {ks : List PyData} {vs : List V} {ds : List PyData}, IsAll K G vs ds → DL.dget ks ds kd = none → DL.dget ks vs kd = none
  | [], _, _, _, _ => rfl
  | _ :: _, _, _, .nil, _ => rfl
  | k :: ks, _, _, .cons a b, h => by
    unfold DL.dget at h ⊢
    by_cases e : sameKey k kd = true
    · rw [if_pos e] at h; cases h
    · rw [if_neg e] at h ⊢; exact IsAll.dgetN b h
end
/-! ### keys -/
def isT : PyData → Bool
  | .tuple _ => true
  | _ => false
def isSc : PyData → Bool
  | .int _ => true
  | .str _ => true
  | _ => false
/-- a key that may be looked for in a dict of these keys -/
def keyFit (kd : PyData) (ks : List PyData) : Prop := (∃ nk, nkOf kd = some nk ∧ nk.depth ≤ 8) ∧ ((isT kd = true ∧ ∀ k ∈ ks, isT k = true) ∨ (isSc kd = true ∧ ∀ k ∈ ks, isSc k = true))
section
variable {X : Cx} {pins : List (Addr × Obj)} {σ : L2.St} {G H : Hp} {s : Shared}
mutual
theorem Is.nested (I : Inv X pins σ H s) (g : Ex G H) : ∀ {v : V} {d : PyData} {nk : NestedKey} {u : Value}, Is (kw X) G v d → nkOf d = some nk → RelV v u → NestedIs s.heap nk u
  | _, _, _, u, .non, e, r => by simp [nkOf] at e; subst e; obtain rfl : u = .none := r; exact .none
  | _, _, _, _, .bl b, e, _ => by simp [nkOf] at e
  | _, _, _, u, .int i, e, r => by simp [nkOf] at e; subst e; obtain ⟨t, rfl⟩ := r; exact .int i t
  | _, _, _, u, .str x _, e, r => by simp [nkOf] at e; subst e; obtain ⟨t, rfl⟩ := r; exact .text x t
  | _, _, _, _, .lst _ _ _, e, _ => by simp [nkOf] at e
  | _, _, _, u, .tup (ds := ds) hs _ z ha, e, r => by
    rw [nkOf] at e
    cases e2 : nkAll ds with
    | none => rw [e2] at e; cases e
    | some ks =>
      rw [e2] at e; cases e
      obtain rfl : u = .ref _ := r
      obtain ⟨its, rv, ⟨o, e1, c, n2, d⟩, _⟩ := I.tuple (g.sqT hs)
      exact .tup e1 c d (by simpa using IsAll.nested I g ha e2 rv)
  | _, _, _, _, .dct _ _ _ _ _ _, e, _ => by simp [nkOf] at e
theorem IsAll.nested (I : Inv X pins σ H s) (g : Ex G H) : ∀ {vs : List V} {ds : List PyData} {nks : List NestedKey} {us : List Value}, IsAll (kw X) G vs ds → nkAll ds = some nks → Vals vs us → NestedAll s.heap nks us
  | _, _, _, _, .nil, e, .nil => by simp [nkAll] at e; subst e; exact .nil
  | _, _, _, _, .cons (d := d) (ds := ds) a b, e, .cons r t => by
    rw [nkAll] at e
    cases e1 : nkOf d with
    | none => rw [e1] at e; cases e
    | some k =>
      cases e2 : nkAll ds with
      | none => rw [e1, e2] at e; cases e
      | some ks =>
        rw [e1, e2] at e; cases e
        exact .cons (Is.nested I g a e1 r) (IsAll.nested I g b e2 t)
end
theorem ents_tup {K : KW} {P : Program} : ∀ {el : List DictEntry} {bs : List V} {ks : List PyData} {nks : List NestedKey}, Vals bs (el.map (·.key)) → IsAll K G bs ks → (∀ k ∈ ks, isT k = true) → ks.map nkOf = nks.map some → el.map (·.hash) = nks.map (fun k => k.hash K.w) →
    ∃ ys : List (NestedKey × Addr × Value), el = ys.map (entryOfKey (nestedKind P K.w)) ∧ ys.map (·.1) = nks ∧ IsAll K G (ys.map fun x => .ref x.2.1) ks ∧ ys.map (·.2.2) = el.map (·.val)
  | [], _, ks, nks, v, a, _, h1, _ => by
    cases v; cases a
    cases nks with
    | nil => exact ⟨[], rfl, rfl, .nil, rfl⟩
    | cons _ _ => cases h1
  | e :: el, _, ks, nks, v, a, ht, h1, h2 => by
    rw [List.map_cons] at v
    cases v with | @cons x u xs us r1 r2 =>
    cases a with | @cons _ _ d ds a1 a2 =>
    cases nks with
    | nil => cases h1
    | cons nk nks =>
      rw [List.map_cons, List.map_cons] at h1 h2
      injection h1 with h3 h4
      injection h2 with h5 h6
      obtain ⟨ys, e1, e2, e3, e4⟩ := ents_tup r2 a2 (fun k hk => ht k (List.mem_cons_of_mem _ hk)) h4 h6
      have td := ht d (by simp)
      cases d with
      | tuple ds =>
        cases a1 with | @tup b zs _ hs hdz z ha =>
        have ek : e.key = .ref b := r1
        refine ⟨(nk, b, e.val) :: ys, ?_, by rw [List.map_cons, e2], .cons (.tup hs hdz z ha) e3, by rw [List.map_cons, List.map_cons, e4]⟩
        rw [List.map_cons, ← e1]
        congr 1
        show e = ⟨nk.hash K.w, .ref b, e.val⟩
        rw [← h5, ← ek]
      | _ => simp [isT] at td
/-- a dict whose keys are tuples, in the heap -/
theorem DRel.tup {a : Addr} {ks : List PyData} {vals : List V} (I : Inv X pins σ H s) (g : Ex G H) (h : DRel (kw X) G H a ks vals) (hk : ∀ k ∈ ks, isT k = true) :
    ∃ (ys : List (NestedKey × Addr × Value)), s.heap.DictOfH (nestedKind X.prog X.w) a ys ∧ ks.map nkOf = ys.map (fun x => some x.1) ∧ IsAll (kw X) G (ys.map fun x => .ref x.2.1) ks ∧ Vals vals (ys.map (·.2.2)) ∧ ys.length ≤ sizeLine ∧ (a == sysModules) = false := by
  obtain ⟨o, es, ep, bs, h1, hr, h3, h4, h5⟩ := h
  obtain ⟨nks, n1, n2, n3⟩ := hr.hs
  have g1 : s.heap.get? a = some o := (show ObjOk X.prog X.w H s.heap a (rawO a o) from I.hok a _ h1).1
  obtain ⟨ys, e1, e2, e3, e4⟩ := ents_tup (P := X.prog) (K := kw X) h3 h4 hk n1 n3
  have h2' : ks.map nkOf = ys.map fun x => some x.1 := by
    rw [n1, ← e2, List.map_map]; rfl
  refine ⟨ys, ⟨o, es, ep, g1, hr.ex, hr.dt, e1, fun y hy => ?_, ?_⟩, h2', e3, by rw [e4]; exact h5, by have := congrArg List.length e1; rw [List.length_map, Array.length_toList] at this; have := hr.sz; omega, hr.sm⟩
  · obtain ⟨i, hi⟩ := List.mem_iff_getElem?.mp hy
    obtain ⟨d, hd1, hd2⟩ := e3.getV (i := i) (v := .ref y.2.1) (by rw [List.getElem?_map, hi]; rfl)
    have n1 : nkOf d = some y.1 := by
      have q := congrArg (·[i]?) h2'
      simp only [List.getElem?_map, hd1, hi] at q
      exact Option.some.inj q
    exact ⟨Is.nested I g hd2 n1 rfl, n2 _ (by rw [← e2]; exact List.mem_map.mpr ⟨y, hy, rfl⟩)⟩
  · have nd := hr.nd
    rw [h2', show (fun x : NestedKey × Addr × Value => some x.1) = some ∘ (·.1) from rfl, ← List.map_map] at nd
    exact nd.of_map _ fun a b h e => h (by rw [e])
theorem ents_sc {K : KW} {P : Program} : ∀ {el : List DictEntry} {bs : List V} {ks : List PyData} {nks : List NestedKey}, Vals bs (el.map (·.key)) → IsAll K G bs ks → (∀ k ∈ ks, isSc k = true) → ks.map nkOf = nks.map some → el.map (·.hash) = nks.map (fun k => k.hash K.w) →
    ∃ vs : List (Key × Value), Pairs (mixKind P K.w) el vs ∧ ks = vs.map (fun p => keyD p.1) ∧ bs = vs.map (fun p => kV p.1) ∧ vs.map (·.2) = el.map (·.val) ∧ ∀ e ∈ el, ∃ k, (mixKind P K.w).is k e.key = true ∧ e.hash = (mixKind P K.w).hash k
  | [], _, ks, nks, v, a, _, h1, _ => by
    cases v; cases a
    exact ⟨[], .nil, rfl, rfl, rfl, fun e he => by cases he⟩
  | e :: el, _, ks, nks, v, a, ht, h1, h2 => by
    rw [List.map_cons] at v
    cases v with | @cons x u xs us r1 r2 =>
    cases a with | @cons _ _ d ds a1 a2 =>
    cases nks with
    | nil => cases h1
    | cons nk nks =>
      rw [List.map_cons, List.map_cons] at h1 h2
      injection h1 with h3 h4
      injection h2 with h5 h6
      obtain ⟨vs, e1, e2, e3, e4, e5⟩ := ents_sc (P := P) r2 a2 (fun k hk => ht k (List.mem_cons_of_mem _ hk)) h4 h6
      have td := ht d (by simp)
      obtain ⟨k, ek, exk, ehk⟩ : ∃ k : Key, d = keyD k ∧ x = kV k ∧ nk.hash K.w = keyH K.w k := by
        cases d with
        | int i => cases a1; simp [nkOf] at h3; subst h3; exact ⟨.inl i, rfl, rfl, rfl⟩
        | str y => cases a1; simp [nkOf] at h3; subst h3; exact ⟨.inr y, rfl, rfl, rfl⟩
        | _ => simp [isSc] at td
      subst ek; subst exk
      have ik : (mixKind P K.w).is k e.key = true := kV_is r1
      refine ⟨(k, e.val) :: vs, .cons ik rfl e1, by rw [List.map_cons, e2], by rw [List.map_cons, e3], by rw [List.map_cons, List.map_cons, e4], fun f hf => ?_⟩
      rcases List.mem_cons.mp hf with z | z
      · subst z; exact ⟨k, ik, by rw [h5, ehk]; rfl⟩
      · exact e5 f z
/-- a dict whose keys are ints and texts, in the heap -/
theorem DRel.sc {a : Addr} {ks : List PyData} {vals : List V} (I : Inv X pins σ H s) (h : DRel (kw X) G H a ks vals) (hk : ∀ k ∈ ks, isSc k = true) :
    ∃ vs : List (Key × Value), s.heap.DictOf (mixKind X.prog X.w) a vs ∧ ks = vs.map (fun p => keyD p.1) ∧ IsAll (kw X) G (vs.map fun p => kV p.1) ks ∧ Vals vals (vs.map (·.2)) ∧ vs.length ≤ sizeLine ∧ (a == sysModules) = false := by
  obtain ⟨o, es, ep, bs, h1, hr, h3, h4, h5⟩ := h
  obtain ⟨nks, n1, n2, n3⟩ := hr.hs
  have g1 : s.heap.get? a = some o := (show ObjOk X.prog X.w H s.heap a (rawO a o) from I.hok a _ h1).1
  obtain ⟨vs, e1, e2, e3, e4, e5⟩ := ents_sc (P := X.prog) (K := kw X) h3 h4 hk n1 n3
  refine ⟨vs, ⟨o, es, ep, g1, hr.ex, hr.dt, fun e he => e5 e (Array.mem_toList_iff.mpr he), e1, ?_⟩, e2, by rw [← e3]; exact h4, by rw [e4]; exact h5, by have := e1.length; rw [Array.length_toList] at this; have := hr.sz; omega, hr.sm⟩
  have nd := hr.nd
  rw [e2, List.map_map, show (nkOf ∘ fun p : Key × Value => keyD p.1) = (nkOf ∘ keyD) ∘ (·.1) from rfl, ← List.map_map] at nd
  exact nd.of_map _ fun a b h e => h (by rw [e])
theorem nodup_some {α : Type} {xs : List α} (h : xs.Nodup) : (xs.map some).Nodup := by
  unfold List.Nodup at h ⊢
  rw [List.pairwise_map]
  exact h.imp fun hne e => hne (Option.some.inj e)
/-- the other way: what a dict of tuples' keys is behind an operation -/
theorem DRel.ofT {a : Addr} {ys : List (NestedKey × Addr × Value)} {ks : List PyData} {vals : List V} {o : Obj} {es : Array DictEntry} {ep : Nat} {H' : Hp} {K : KW} {P : Program} (hk : ks.map nkOf = ys.map (fun x => some x.1)) (dp : ∀ y ∈ ys, y.1.depth ≤ 8) (hi : IsAll K G (ys.map fun x => .ref x.2.1) ks) (hv : Vals vals (ys.map (·.2.2)))
    (hl : ys.length ≤ sizeLine) (sm : (a == sysModules) = false) (ex : o.ExactDict) (dt : o.data = .dict es ep) (he : es.toList = ys.map (entryOfKey (nestedKind P K.w))) (nd : (ys.map (·.1)).Nodup) (e : H' a = some (rawO a o)) : DRel K G H' a ks vals := by
  refine ⟨o, es, ep, ys.map fun x => .ref x.2.1, e, ⟨ex, dt, by rw [← Array.length_toList, he, List.length_map]; exact hl, sm, ?_, ys.map (·.1), by rw [hk, List.map_map]; rfl, fun k hk => ?_, by rw [he, List.map_map, List.map_map]; rfl⟩, ?_, hi, by rw [he, List.map_map]; exact hv⟩
  · rw [hk, show (fun x : NestedKey × Addr × Value => some x.1) = some ∘ (·.1) from rfl, ← List.map_map]
    exact nodup_some nd
  · obtain ⟨y, hy, rfl⟩ := List.mem_map.mp hk
    exact dp y hy
  · rw [he, List.map_map]
    clear he hk dp hi hv hl nd
    induction ys with
    | nil => exact .nil
    | cons y ys ih => exact .cons rfl ih
theorem nk_same {k kd : PyData} {nk n : NestedKey} (h1 : nkOf k = some n) (h2 : nkOf kd = some nk) : sameKey k kd = decide (n = nk) := by
  unfold sameKey
  rw [h1, h2]
  by_cases e : n = nk
  · subst e; simp
  · rw [decide_eq_false e, decide_eq_false (fun z => e (Option.some.inj z))]
theorem at_get {kd : PyData} {nk : NestedKey} (h2 : nkOf kd = some nk) : ∀ {ks : List PyData} {vals : List V} {ys : List (NestedKey × Addr × Value)}, ks.map nkOf = ys.map (fun x => some x.1) → Vals vals (ys.map (·.2.2)) →
    (atKey ys nk).isSome = dhas ks kd ∧ ∀ v, dget ks vals kd = some v → ∃ p, atKey ys nk = some p ∧ RelV v p.2
  | [], vals, ys, h, r => by
    cases ys with
    | nil => exact ⟨rfl, fun v hv => by simp [dget] at hv⟩
    | cons y ys => cases h
  | k :: ks, vals, [], h, r => by cases h
  | k :: ks, vals, y :: ys, h, r => by
    rw [List.map_cons, List.map_cons] at h
    injection h with h3 h4
    rw [List.map_cons] at r
    cases r with | @cons v u vs us r1 r2 =>
    obtain ⟨i1, i2⟩ := at_get (kd := kd) h2 h4 r2
    have e := nk_same h3 h2
    unfold atKey at i1 i2 ⊢
    rw [List.find?_cons]
    show ((match decide (y.1 = nk) with | true => some y | false => ys.find? _).map _).isSome = (sameKey k kd || dhas ks kd) ∧ ∀ v', (if sameKey k kd = true then some v else dget ks vs kd) = some v' → _
    rw [e]
    by_cases q : y.1 = nk
    · rw [decide_eq_true q]
      refine ⟨rfl, fun v' hv => ?_⟩
      rw [if_pos rfl] at hv; cases hv
      exact ⟨y.2, rfl, r1⟩
    · rw [decide_eq_false q, Bool.false_or]
      refine ⟨i1, fun v' hv => ?_⟩
      rw [if_neg Bool.false_ne_true] at hv
      exact i2 v' hv
theorem sc_key {kd : PyData} (h : isSc kd = true) : ∃ k : Key, kd = keyD k := by
  cases kd with
  | int i => exact ⟨.inl i, rfl⟩
  | str x => exact ⟨.inr x, rfl⟩
  | _ => simp [isSc] at h
theorem keyD_same (k k' : Key) : sameKey (keyD k) (keyD k') = decide (k = k') := by
  cases k <;> cases k' <;> simp [sameKey, keyD, nkOf]
theorem val_get {k : Key} : ∀ {vals : List V} {vs : List (Key × Value)}, Vals vals (vs.map (·.2)) →
    (valueAt vs k).isSome = dhas (vs.map fun p => keyD p.1) (keyD k) ∧ ∀ v, dget (vs.map fun p => keyD p.1) vals (keyD k) = some v → ∃ u, valueAt vs k = some u ∧ RelV v u
  | vals, [], r => ⟨rfl, fun v hv => by simp [dget] at hv⟩
  | vals, y :: ys, r => by
    rw [List.map_cons] at r
    cases r with | @cons v u vs us r1 r2 =>
    obtain ⟨i1, i2⟩ := val_get (k := k) r2
    have e := keyD_same y.1 k
    unfold valueAt at i1 i2 ⊢
    rw [List.find?_cons]
    show ((match decide (y.1 = k) with | true => some y | false => ys.find? _).map _).isSome = (sameKey (keyD y.1) (keyD k) || dhas (ys.map fun p => keyD p.1) (keyD k)) ∧ ∀ v', (if sameKey (keyD y.1) (keyD k) = true then some v else dget (ys.map fun p => keyD p.1) vs (keyD k)) = some v' → _
    rw [e]
    by_cases q : y.1 = k
    · rw [decide_eq_true q]
      refine ⟨rfl, fun v' hv => ?_⟩
      rw [if_pos rfl] at hv; cases hv
      exact ⟨y.2, rfl, r1⟩
    · rw [decide_eq_false q, Bool.false_or]
      refine ⟨i1, fun v' hv => ?_⟩
      rw [if_neg Bool.false_ne_true] at hv
      exact i2 v' hv
theorem sc_is {G : Hp} {K : KW} {k : Key} {v : V} (h : Is K G v (keyD k)) : v = kV k := by
  cases k <;> (cases h; rfl)
end
/-! ### operations -/
section
variable {X : Cx} {K : KW}
/-- a dict that is read -/
def DAt (K : KW) (H : Hp) (y : V) (G : Hp) (ks : List PyData) (vals : List V) : Prop := ∃ a, y = .ref a ∧ Ex G H ∧ DRel K G H a ks vals
def rInDict (K : KW) (neg : Bool) : R2 := fun x y H Q => ∃ G ks vals kd, DAt K H y G ks vals ∧ Is K G x kd ∧ keyFit kd ks ∧ Q (.bl (ngB neg (dhas ks kd))) H
theorem op_inDict (hu : X.A.units + 65 < cLine) : OpR X (compareOp .In) (rInDict (kw X) false) := by
  intro pins s σ H x y v u Q I rx ry h
  obtain ⟨G, ks, vals, kd, ⟨a, rfl, g, hd⟩, hx, ⟨⟨nk, e1, e2⟩, hk⟩, q⟩ := h
  obtain rfl : u = .ref a := ry
  rcases hk with ⟨t1, t2⟩ | ⟨t1, t2⟩
  · obtain ⟨ys, d1, d2, d3, d4, d5, d6⟩ := hd.tup I g t2
    cases kd with
    | tuple ds =>
      cases hx with | @tup b xs _ hs hdz z ha =>
      obtain rfl : v = .ref b := rx
      refine wpAny_in_heap (knd := nestedKind X.prog X.w) (by show X.A.units + 1 + 8 < cLine; omega) ⟨Is.nested I g (.tup hs hdz z ha) e1 rfl, e2⟩ d6 d1 ?_
      rw [(at_get e1 d2 d4).1]
      exact ⟨.bl _, H, I.tok _, rfl, q⟩
    | _ => simp [isT] at t1
  · obtain ⟨vs, d1, rfl, d3, d4, d5, d6⟩ := hd.sc I t2
    obtain ⟨k, rfl⟩ := sc_key t1
    obtain rfl := sc_is hx
    refine wpAny_in_of (kV_is rx) d6 d1.mapOf ?_
    rw [(val_get (k := k) d4).1]
    exact ⟨.bl _, H, I.tok _, rfl, q⟩
theorem op_notInDict (hu : X.A.units + 65 < cLine) : OpR X (compareOp .NotIn) (rInDict (kw X) true) := by
  intro pins s σ H x y v u Q I rx ry h
  obtain ⟨G, ks, vals, kd, ⟨a, rfl, g, hd⟩, hx, ⟨⟨nk, e1, e2⟩, hk⟩, q⟩ := h
  obtain rfl : u = .ref a := ry
  rcases hk with ⟨t1, t2⟩ | ⟨t1, t2⟩
  · obtain ⟨ys, d1, d2, d3, d4, d5, d6⟩ := hd.tup I g t2
    cases kd with
    | tuple ds =>
      cases hx with | @tup b xs _ hs hdz z ha =>
      obtain rfl : v = .ref b := rx
      refine wpAny_notIn_heap (knd := nestedKind X.prog X.w) (by show X.A.units + 1 + 8 < cLine; omega) ⟨Is.nested I g (.tup hs hdz z ha) e1 rfl, e2⟩ d6 d1 ?_
      rw [(at_get e1 d2 d4).1]
      exact ⟨.bl _, H, I.tok _, rfl, q⟩
    | _ => simp [isT] at t1
  · obtain ⟨vs, d1, rfl, d3, d4, d5, d6⟩ := hd.sc I t2
    obtain ⟨k, rfl⟩ := sc_key t1
    obtain rfl := sc_is hx
    refine wpAny_notIn_of (kV_is rx) d6 d1.mapOf ?_
    rw [(val_get (k := k) d4).1]
    exact ⟨.bl _, H, I.tok _, rfl, q⟩
/-- d[k], there -/
def rIxDict (K : KW) : R2 := fun y x H Q => ∃ G ks vals kd v, DAt K H y G ks vals ∧ Is K G x kd ∧ keyFit kd ks ∧ dget ks vals kd = some v ∧ Q v H
theorem getItem_dict {pins : List (Addr × Obj)} {s : Shared} {σ : L2.St} {H G : Hp} {a : Addr} {ks : List PyData} {vals : List V} {kd : PyData} {x w : V} {u : Value} {Q : VK} (hu : X.A.units + 65 < cLine) (I : Inv X pins σ H s) (g : Ex G H) (hd : DRel (kw X) G H a ks vals) (hx : Is (kw X) G x kd) (hf : keyFit kd ks) (rx : RelV x u)
    (hw : dget ks vals kd = some w) (q : Q w H) : wpAny (model X.prog X.w) X.A (getItem (.ref a) u) (EP X pins σ Q) X.xe s := by
  obtain ⟨⟨nk, e1, e2⟩, hk⟩ := hf
  rcases hk with ⟨t1, t2⟩ | ⟨t1, t2⟩
  · obtain ⟨ys, d1, d2, d3, d4, d5, d6⟩ := hd.tup I g t2
    cases kd with
    | tuple ds =>
      cases hx with | @tup b xs _ hs hdz z ha =>
      obtain rfl : u = .ref b := rx
      obtain ⟨p, hp, rp⟩ := (at_get e1 d2 d4).2 w hw
      exact wpAny_getItem_heap (knd := nestedKind X.prog X.w) (by show X.A.units + 1 + 8 < cLine; omega) ⟨Is.nested I g (.tup hs hdz z ha) e1 rfl, e2⟩ d1 hp ⟨w, H, I.tok _, rp, q⟩
    | _ => simp [isT] at t1
  · obtain ⟨vs, d1, rfl, d3, d4, d5, d6⟩ := hd.sc I t2
    obtain ⟨k, rfl⟩ := sc_key t1
    obtain rfl := sc_is hx
    obtain ⟨p, hp, rp⟩ := (val_get (k := k) d4).2 w hw
    exact wpAny_getItem_of (kV_is rx) d1.mapOf hp ⟨w, H, I.tok _, rp, q⟩
theorem DRel.typeIs {pins : List (Addr × Obj)} {s : Shared} {σ : L2.St} {H G : Hp} {a : Addr} {ks : List PyData} {vals : List V} (I : Inv X pins σ H s) (h : DRel (kw X) G H a ks vals) : s.TypeIs (.ref a) "dict" := by
  obtain ⟨o, es, ep, bs, h1, hr, _⟩ := h
  exact ⟨o, (show ObjOk X.prog X.w H s.heap a (rawO a o) from I.hok a _ h1).1, hr.ex.1⟩
theorem ix_dict (hu : X.A.units + 65 < cLine) : IxR X (rIxDict (kw X)) := by
  intro value slice pins s σ H x y v u Q I rx ry h hs
  obtain ⟨G, ks, vals, kd, w, ⟨a, rfl, g, hd⟩, hx, hf, hw, q⟩ := h
  obtain rfl : v = .ref a := rx
  exact tail_any (hd.typeIs I) PySem.F.slot_dict_getitem.lookup (getItem_dict hu I g hd hx hf ry hw q) hs
/-- d[k] = v: what stands at a behind it -/
def DPutX (K : KW) (G H : Hp) (a : Addr) (ks : List PyData) (vals : List V) (kd : PyData) (v : V) (o : HO) : Prop := ∀ H' : Hp, H' a = some o → DRel K G H' a (dputK ks kd) (dputV ks vals kd v)
def rSetD (K : KW) : V → V → V → Hp → (Hp → Prop) → Prop := fun o i v H Q => ∃ a G ks vals kd, o = .ref a ∧ Ex G H ∧ DRel K G H a ks vals ∧ Is K G i kd ∧ keyFit kd ks ∧ ks.length < sizeLine ∧ Mut (H a) ∧ ∀ ob : HO, DPutX K G H a ks vals kd v ob → Mut (some ob) → Q (upd H a ob)
theorem DRel.mut {G H : Hp} {a : Addr} {ks : List PyData} {vals : List V} (h : DRel K G H a ks vals) : Mut (H a) := by
  obtain ⟨o, es, ep, bs, h1, _⟩ := h
  rw [h1]; exact True.intro
theorem raw_ok {P : Program} {w : World} {H : Hp} {h : Heap} {a : Addr} {o : Obj} (e : h.get? a = some o) : ObjOk P w H h a (rawO a o) := ⟨e, ⟨o, e⟩, fun h1 h2 p k => k o p⟩
/-- entries by their keys' places: behind a store -/
theorem stored_rel {K : KW} {G : Hp} {kd : PyData} {nk : NestedKey} {b : Addr} {v : V} {u : Value} (h2 : nkOf kd = some nk) (hb : Is K G (.ref b) kd) (rv : RelV v u) {ks : List PyData} {vals : List V} {ys : List (NestedKey × Addr × Value)}
    (hk : ks.map nkOf = ys.map (fun x => some x.1)) (hi : IsAll K G (ys.map fun x => .ref x.2.1) ks) (hv : Vals vals (ys.map (·.2.2))) :
    (dputK ks kd).map nkOf = (storedH ys nk b u).map (fun x => some x.1) ∧ IsAll K G ((storedH ys nk b u).map fun x => .ref x.2.1) (dputK ks kd) ∧ Vals (dputV ks vals kd v) ((storedH ys nk b u).map (·.2.2)) := by
  have hf := (at_get h2 hk hv).1
  unfold storedH dputK dputV
  rw [hf]
  by_cases q : dhas ks kd = true
  · rw [if_pos q, if_pos q, if_pos q, List.map_map, List.map_map, List.map_map]
    have e1 : ys.map ((fun x => some x.1) ∘ putAt nk u) = ys.map fun x => some x.1 := List.map_congr_left fun x _ => by show some (putAt nk u x).1 = some x.1; unfold putAt; split <;> rfl
    have e2 : ys.map ((fun x => V.ref x.2.1) ∘ putAt nk u) = ys.map fun x => V.ref x.2.1 := List.map_congr_left fun x _ => by show V.ref (putAt nk u x).2.1 = V.ref x.2.1; unfold putAt; split <;> rfl
    rw [e1, e2]
    refine ⟨hk, hi, ?_⟩
    clear hf q e1 e2 hi
    induction ys generalizing ks vals with
    | nil => cases hv; cases ks with
      | nil => exact .nil
      | cons _ _ => cases hk
    | cons y ys ih =>
      cases ks with
      | nil => cases hk
      | cons k ks =>
        rw [List.map_cons] at hv
        cases hv with | @cons x z xs zs r1 r2 =>
        rw [List.map_cons, List.map_cons] at hk
        injection hk with h3 h4
        rw [List.map_cons]
        show Vals ((if sameKey k kd = true then v else x) :: dset ks xs kd v) _
        refine .cons ?_ (ih h4 r2)
        show RelV _ (putAt nk u y).2.2
        unfold putAt
        rw [nk_same h3 h2]
        by_cases q : y.1 = nk
        · rw [if_pos q, decide_eq_true q]; exact rv
        · rw [if_neg q, decide_eq_false q]; exact r1
  · rw [if_neg q, if_neg q, if_neg q, List.map_append, List.map_append, List.map_append, List.map_append, hk]
    exact ⟨by show _ ++ [nkOf kd] = _; rw [h2]; rfl, hi.append (.one hb), hv.append (.cons rv .nil)⟩
theorem stored_sc {K : KW} {G : Hp} {k : Key} {v : V} {u : Value} (hb : Is K G (kV k) (keyD k)) (rv : RelV v u) {vals : List V} {vs : List (Key × Value)} (hi : IsAll K G (vs.map fun p => kV p.1) (vs.map fun p => keyD p.1)) (hv : Vals vals (vs.map (·.2))) :
    dputK (vs.map fun p => keyD p.1) (keyD k) = (stored vs k u).map (fun p => keyD p.1) ∧ IsAll K G ((stored vs k u).map fun p => kV p.1) ((stored vs k u).map fun p => keyD p.1) ∧ Vals (dputV (vs.map fun p => keyD p.1) vals (keyD k) v) ((stored vs k u).map (·.2)) := by
  have hf : (vs.any fun kv => decide (kv.1 = k)) = dhas (vs.map fun p => keyD p.1) (keyD k) := by
    unfold dhas
    rw [List.any_map]
    congr 1
    funext p
    exact (keyD_same p.1 k).symm
  unfold stored dputK dputV
  rw [hf]
  by_cases q : dhas (vs.map fun p => keyD p.1) (keyD k) = true
  · rw [if_pos q, if_pos q, if_pos q, List.map_map, List.map_map, List.map_map]
    have e1 : vs.map ((fun p => keyD p.1) ∘ fun kv => if kv.1 = k then (kv.1, u) else kv) = vs.map fun p => keyD p.1 := List.map_congr_left fun x _ => by show keyD (if x.1 = k then (x.1, u) else x).1 = _; split <;> rfl
    have e2 : vs.map ((fun p => kV p.1) ∘ fun kv => if kv.1 = k then (kv.1, u) else kv) = vs.map fun p => kV p.1 := List.map_congr_left fun x _ => by show kV (if x.1 = k then (x.1, u) else x).1 = _; split <;> rfl
    rw [e1, e2]
    refine ⟨rfl, hi, ?_⟩
    clear hf q e1 e2 hi hb
    induction vs generalizing vals with
    | nil => cases hv; exact .nil
    | cons y ys ih =>
      rw [List.map_cons] at hv
      cases hv with | @cons x z xs zs r1 r2 =>
      rw [List.map_cons]
      show Vals ((if sameKey (keyD y.1) (keyD k) = true then v else x) :: dset (ys.map fun p => keyD p.1) xs (keyD k) v) _
      refine .cons ?_ (ih r2)
      show RelV _ (if y.1 = k then (y.1, u) else y).2
      rw [keyD_same]
      by_cases q : y.1 = k
      · rw [if_pos q, decide_eq_true q]; exact rv
      · rw [if_neg q, decide_eq_false q]; exact r1
  · rw [if_neg q, if_neg q, if_neg q, List.map_append, List.map_append, List.map_append]
    exact ⟨rfl, hi.append (.one hb), hv.append (.cons rv .nil)⟩
/-- the other way: ints and texts -/
theorem DRel.ofS {a : Addr} {vs : List (Key × Value)} {vals : List V} {o : Obj} {es : Array DictEntry} {ep : Nat} {H' : Hp} {G : Hp} {K : KW} {P : Program} (hi : IsAll K G (vs.map fun p => kV p.1) (vs.map fun p => keyD p.1)) (hv : Vals vals (vs.map (·.2)))
    (hl : vs.length ≤ sizeLine) (sm : (a == sysModules) = false) (ex : o.ExactDict) (dt : o.data = .dict es ep) (hko : PySem.KeysOf (mixKind P K.w) es) (hp : Pairs (mixKind P K.w) es.toList vs) (nd : (vs.map (·.1)).Nodup) (e : H' a = some (rawO a o)) : DRel K G H' a (vs.map fun p => keyD p.1) vals := by
  have nkk : ∀ k : Key, ∃ n : NestedKey, nkOf (keyD k) = some n ∧ n.depth ≤ 8 ∧ n.hash K.w = keyH K.w k := fun k => by
    cases k with
    | inl i => exact ⟨.num i, by simp [keyD, nkOf], by simp [NestedKey.depth], rfl⟩
    | inr x => exact ⟨.text x, by simp [keyD, nkOf], by simp [NestedKey.depth], rfl⟩
  have hko' : ∀ e ∈ es.toList, ∃ k, (mixKind P K.w).is k e.key = true ∧ e.hash = (mixKind P K.w).hash k := fun e he => hko e (Array.mem_toList_iff.mp he)
  have len : es.size = vs.length := by have := hp.length; rwa [Array.length_toList] at this
  have all : Vals (vs.map fun p => kV p.1) (es.toList.map (·.key)) ∧ vs.map (·.2) = es.toList.map (·.val) ∧ ∃ nks : List NestedKey, (vs.map fun p => nkOf (keyD p.1)) = nks.map some ∧ (∀ k ∈ nks, k.depth ≤ 8) ∧ es.toList.map (·.hash) = nks.map fun k => k.hash K.w := by
    clear hv hl len hi dt hko nd
    generalize es.toList = el at hp hko'
    induction hp with
    | nil => exact ⟨.nil, rfl, [], rfl, (fun k hk => by cases hk), rfl⟩
    | @cons e kv el vs p1 p2 _ ih =>
      obtain ⟨i1, i2, nks, i3, i4, i5⟩ := ih fun f hf => hko' f (List.mem_cons_of_mem _ hf)
      obtain ⟨n, n1, n2, n3⟩ := nkk kv.1
      refine ⟨.cons ?_ i1, by rw [List.map_cons, List.map_cons, i2, p2], n :: nks, by rw [List.map_cons, List.map_cons, i3, n1], fun k hk => ?_, ?_⟩
      · show RelV (kV kv.1) e.key
        rcases keyIs_shape p1 with ⟨i, t, e1, e2⟩ | ⟨x, t, e1, e2⟩
        · rw [e1, e2]; exact ⟨t, rfl⟩
        · rw [e1, e2]; exact ⟨t, rfl⟩
      · rcases List.mem_cons.mp hk with z | z
        · subst z; exact n2
        · exact i4 k z
      · rw [List.map_cons, List.map_cons, i5, n3]
        obtain ⟨k, k1, k2⟩ := hko' e (by simp)
        have : k = kv.1 := (mixKind P K.w).inj _ _ _ k1 p1
        rw [k2, this]; rfl
  obtain ⟨v1, v2, nks, v3, v4, v5⟩ := all
  refine ⟨o, es, ep, vs.map fun p => kV p.1, e, ⟨ex, dt, by rw [len]; exact hl, sm, ?_, nks, by rw [List.map_map]; exact v3, v4, v5⟩, v1, hi, by rw [← v2]; exact hv⟩
  rw [List.map_map, show (nkOf ∘ fun p : Key × Value => keyD p.1) = (nkOf ∘ keyD) ∘ (·.1) from rfl, ← List.map_map]
  unfold List.Nodup at nd ⊢
  rw [List.pairwise_map]
  exact nd.imp fun {a b} hne e => hne (by
    have := keyD_same a b
    unfold sameKey at this
    rw [decide_eq_true (show nkOf (keyD a) = nkOf (keyD b) from e)] at this
    exact of_decide_eq_true this.symm)
theorem set_dict (hu : X.A.units + 65 < cLine) : PSet X (rSetD (kw X)) := by
  intro pins s σ H o i v ov iv u Q I ro ri rv h
  obtain ⟨a, G, ks, vals, kd, rfl, g, hd, hx, ⟨⟨nk, e1, e2⟩, hk⟩, hl, mu, q⟩ := h
  obtain rfl : ov = .ref a := ro
  rcases hk with ⟨t1, t2⟩ | ⟨t1, t2⟩
  · obtain ⟨ys, d1, d2, d3, d4, d5, d6⟩ := hd.tup I g t2
    cases kd with
    | tuple ds =>
      cases hx with | @tup b us _ hs hdz z ha =>
      obtain rfl : iv = .ref b := ri
      have hb : Is (kw X) G (.ref b) (.tuple ds) := .tup hs hdz z ha
      have hkey : (nestedKind X.prog X.w).is s.heap nk b := ⟨Is.nested I g hb e1 rfl, e2⟩
      have ly : ks.length = ys.length := by have := congrArg List.length d2; rwa [List.length_map, List.length_map] at this
      obtain ⟨_, _, _, _, _, _, _, dis, _⟩ := id d1
      refine wpAny_setItem_heap (knd := nestedKind X.prog X.w) (hsz := d5) (by show X.A.units + 1 + 8 < cLine; omega) hkey d1 fun h' dd' hs' => ?_
      obtain ⟨o1, es, ep, g1, g2, g3, g4, g5, g6⟩ := dd'
      obtain ⟨s1, s2, s3⟩ := stored_rel (K := kw X) e1 hb rv d2 d3 d4
      refine ⟨_, d_write I mu hs' ⟨o1, g1⟩ (ob := rawO a o1) (raw_ok g1), q _ (fun H' eH => DRel.ofT (K := kw X) (P := X.prog) s1 (fun y hy => (g5 y hy).2) s2 s3 ?_ d6 g2 g3 g4 g6 eH) True.intro⟩
      unfold storedH
      split
      · rw [List.length_map]; exact d5
      · rw [List.length_append]; show _ + 1 ≤ _; omega
    | _ => simp [isT] at t1
  · obtain ⟨vs, d1, rfl, d3, d4, d5, d6⟩ := hd.sc I t2
    obtain ⟨k, rfl⟩ := sc_key t1
    have hik := sc_is hx
    subst hik
    refine wpAny_setItem_pairs (hsz := d5) (kV_is ri) d1 fun h' dd' hs' => ?_
    obtain ⟨o1, es, ep, g1, g2, g3, g4, g5, g6⟩ := dd'
    obtain ⟨s1, s2, s3⟩ := stored_sc (K := kw X) (u := u) hx rv d3 d4
    refine ⟨_, d_write I mu hs' ⟨o1, g1⟩ (ob := rawO a o1) (raw_ok g1), q _ (fun H' eH => ?_) True.intro⟩
    rw [s1]
    refine DRel.ofS (K := kw X) (P := X.prog) s2 s3 ?_ d6 g2 g3 g4 g5 g6 eH
    rw [List.length_map] at hl
    unfold stored
    split
    · rw [List.length_map]; exact d5
    · rw [List.length_append]; show _ + 1 ≤ _; omega
end
end DL

/-! DL18: walks over dicts; dicts by data. -/
namespace DL
open PySem PySem.Spec PyProof.Rows L2
section
variable {P : Program} {w : World} {K : PySem.W.Frag} {tg : Expr} {a : Addr} {o : Obj} {es : Array DictEntry} {ep : Nat} {bs vals : List V}
/-- the keys (or the values) one by one -/
def Irk (a : Addr) (o : Obj) (bs : List V) : It := ⟨fun i H => H a = some (rawO a o) ∧ i < bs.length, fun i H x H' => H' = H ∧ bs[i]? = some x, fun i H => H a = some (rawO a o) ∧ bs.length ≤ i⟩
theorem raw_at {X : Cx} {pins : List (Addr × Obj)} {s : Shared} {σ : L2.St} {H : Hp} (I : Inv X pins σ H s) (h : H a = some (rawO a o)) : s.heap.get? a = some o := (show ObjOk X.prog X.w H s.heap a (rawO a o) from I.hok a _ h).1
theorem vals_at {us : List Value} (h : Vals bs us) {i : Nat} (hi : i < bs.length) : ∃ x u, bs[i]? = some x ∧ us[i]? = some u ∧ RelV x u := by
  obtain ⟨u, e, r⟩ := h.get (List.getElem?_eq_getElem hi)
  exact ⟨_, u, List.getElem?_eq_getElem hi, e, r⟩
theorem turn_rk (it : Addr) (ex : o.ExactDict) (hod : o.data = .dict es ep) (hv : Vals bs (es.toList.map (·.key))) : Turn P w K tg (Irk a o bs) [it] it (fun i h => h.IsKeyIter it a i es.size ep) where
  mem := by simp
  obj := fun i h st b hb => by
    have e : b = it := by simpa using hb
    subst e
    obtain ⟨oi, e, c, dd⟩ := st
    exact ⟨oi, e, fun v z => by rw [dd] at z; cases z⟩
  keep := fun i h h' st k => st.at fun oi e => k it (by simp) oi e
  item := by
    intro X hP hw hK hc i pins s σ H E I hf st hg
    subst hP hw hK
    obtain ⟨hd, hi⟩ := hg
    obtain ⟨f0, f1, f2, f3, f4, f5⟩ := hf it (by simp)
    have hgd := raw_at I hd
    have hl : bs.length = es.size := by have := hv.length; rwa [List.length_map, Array.length_toList] at this
    obtain ⟨x, u, e1, e2, e3⟩ := vals_at hv hi
    have eu : u = es[i].key := by
      rw [List.getElem?_map, Array.getElem?_toList, Array.getElem?_eq_getElem (by omega)] at e2
      exact (Option.some.inj e2).symm
    refine wpAny_pyNext_keys_item_raw st ⟨o, hgd, ex, hod⟩ (by omega) fun h' st' sb => ?_
    have I1 : Inv X pins σ H { s with heap := h' } := I.turned (t' := s.toks) (fun b ob hb e => (sb.2 b hb).trans e) f0 f1 f3 f4 f5
    obtain ⟨oi, e, c, dd⟩ := id st'
    exact ⟨es[i].key, rfl, go_of (s := { s with heap := h' }) e c dd (by decide) ⟨x, H, I1, eu ▸ e3, ⟨rfl, e1⟩, st', fun b hb => (hf b hb).1⟩⟩
  done := by
    intro X hP hw hK hc i pins s σ H E I hf st hg
    subst hP hw hK
    obtain ⟨hd, hi⟩ := hg
    obtain ⟨f0, f1, f2, f3, f4, f5⟩ := hf it (by simp)
    have hgd := raw_at I hd
    have hl : bs.length = es.size := by have := hv.length; rwa [List.length_map, Array.length_toList] at this
    exact wpAny_pyNext_keys_end_raw (I.ok.hd hc) st ⟨o, hgd, ex, hod⟩ (by omega) fun h' eb => ⟨rfl, I.turned (t' := s.toks) (fun b ob hb e => eb b ob hb e) f0 f1 f3 f4 f5⟩
  self := fun A i s Q E st h => by
    refine wpAny_pyIter_slot st.typeIs F.slot_dict_keyiterator_iter (wpAny_call_entry F.slot_dict_keyiterator_iter st.typeIs F.entry_dict_keyiterator_iter ?_ (F.args_dict_keyiterator_iter_1 _))
    show wpAny _ _ (ret (.ref it)) _ _ s
    exact wpAny_pure ⟨_, rfl, "dict_keyiterator", _, st.typeIs, F.slot_dict_keyiterator_next.lookup, h⟩
theorem turn_rv (it : Addr) (ex : o.ExactDict) (hod : o.data = .dict es ep) (hv : Vals bs (es.toList.map (·.val))) : Turn P w K tg (Irk a o bs) [it] it (fun i h => h.IsValIter it a i es.size ep) where
  mem := by simp
  obj := fun i h st b hb => by
    have e : b = it := by simpa using hb
    subst e
    obtain ⟨oi, e, c, dd⟩ := st
    exact ⟨oi, e, fun v z => by rw [dd] at z; cases z⟩
  keep := fun i h h' st k => st.at fun oi e => k it (by simp) oi e
  item := by
    intro X hP hw hK hc i pins s σ H E I hf st hg
    subst hP hw hK
    obtain ⟨hd, hi⟩ := hg
    obtain ⟨f0, f1, f2, f3, f4, f5⟩ := hf it (by simp)
    have hgd := raw_at I hd
    have hl : bs.length = es.size := by have := hv.length; rwa [List.length_map, Array.length_toList] at this
    obtain ⟨x, u, e1, e2, e3⟩ := vals_at hv hi
    have eu : u = es[i].val := by
      rw [List.getElem?_map, Array.getElem?_toList, Array.getElem?_eq_getElem (by omega)] at e2
      exact (Option.some.inj e2).symm
    refine wpAny_pyNext_values_item_raw st ⟨o, hgd, ex, hod⟩ (by omega) fun h' st' sb => ?_
    have I1 : Inv X pins σ H { s with heap := h' } := I.turned (t' := s.toks) (fun b ob hb e => (sb.2 b hb).trans e) f0 f1 f3 f4 f5
    obtain ⟨oi, e, c, dd⟩ := id st'
    exact ⟨es[i].val, rfl, go_of (s := { s with heap := h' }) e c dd (by decide) ⟨x, H, I1, eu ▸ e3, ⟨rfl, e1⟩, st', fun b hb => (hf b hb).1⟩⟩
  done := by
    intro X hP hw hK hc i pins s σ H E I hf st hg
    subst hP hw hK
    obtain ⟨hd, hi⟩ := hg
    obtain ⟨f0, f1, f2, f3, f4, f5⟩ := hf it (by simp)
    have hgd := raw_at I hd
    have hl : bs.length = es.size := by have := hv.length; rwa [List.length_map, Array.length_toList] at this
    exact wpAny_pyNext_values_end_raw (I.ok.hd hc) st ⟨o, hgd, ex, hod⟩ (by omega) fun h' eb => ⟨rfl, I.turned (t' := s.toks) (fun b ob hb e => eb b ob hb e) f0 f1 f3 f4 f5⟩
  self := fun A i s Q E st h => wpAny_pyIter_valiter st h
/-- the pairs one by one: each a new tuple -/
def Iri (a : Addr) (o : Obj) (bs vals : List V) : It := ⟨fun i H => H a = some (rawO a o) ∧ i < bs.length, fun i H x H' => ∃ p k v, bs[i]? = some k ∧ vals[i]? = some v ∧ x = .ref p ∧ H p = none ∧ ∃ ob : Obj, ob.dict = none ∧ H' = upd H p (.frz ob (.tup [k, v])), fun i H => H a = some (rawO a o) ∧ bs.length ≤ i⟩
theorem turn_ri {elts : List Expr} {kk : Nat} {tpos : Pos} (it : Addr) (ex : o.ExactDict) (hod : o.data = .dict es ep) (hv : Vals bs (es.toList.map (·.key))) (hw : Vals vals (es.toList.map (·.val))) :
    Turn P w K (.Tuple elts kk tpos) (Iri a o bs vals) [it] it (fun i h => ∃ ok ov, IsItemIter h it a i es.size ep ok ov) where
  mem := by simp
  obj := fun i h st b hb => by
    have e : b = it := by simpa using hb
    subst e
    obtain ⟨ok, ov, e⟩ := st
    exact ⟨_, e, fun v z => nomatch z⟩
  keep := fun i h h' st k => let ⟨ok, ov, e⟩ := st; ⟨ok, ov, k it (by simp) _ e⟩
  item := by
    intro X hP hw' hK hc i pins s σ H E I hf st hg
    subst hP hw' hK
    obtain ⟨hd, hi⟩ := hg
    have hgd := raw_at I hd
    have hl : bs.length = es.size := by have := hv.length; rwa [List.length_map, Array.length_toList] at this
    have hl2 : vals.length = es.size := by have := hw.length; rwa [List.length_map, Array.length_toList] at this
    obtain ⟨x, u, e1, e2, e3⟩ := vals_at hv hi
    obtain ⟨y, z, d1, d2, d3⟩ := vals_at hw (i := i) (by omega)
    have eu : u = es[i].key := by
      rw [List.getElem?_map, Array.getElem?_toList, Array.getElem?_eq_getElem (by omega)] at e2
      exact (Option.some.inj e2).symm
    have ez : z = es[i].val := by
      rw [List.getElem?_map, Array.getElem?_toList, Array.getElem?_eq_getElem (by omega)] at d2
      exact (Option.some.inj d2).symm
    obtain ⟨ok, ov, he⟩ := st
    have hlt : it < s.heap.objs.size := Heap.lt_size he
    refine wpAny_pyNext_items_item_raw he ⟨o, hgd, ex, hod⟩ (by omega) fun h' ho hT hz hk => ?_
    refine ⟨_, rfl, wpAny_letOwnedTupleGo_items (s := { s with heap := h' }) ho fun h'' he' sb => ?_⟩
    have hT2 : h''.get? s.heap.objs.size = some { cls := .type "tuple", data := .seq #[es[i].key, es[i].val] } := (sb.2 _ (Nat.ne_of_gt hlt)).trans hT
    have new : ObjOk X.prog X.w (upd H s.heap.objs.size (.frz { cls := .type "tuple", data := .seq #[es[i].key, es[i].val] } (.tup [x, y]))) h'' s.heap.objs.size (.frz { cls := .type "tuple", data := .seq #[es[i].key, es[i].val] } (.tup [x, y])) :=
      ⟨hT2, by show 2 ≤ sizeLine; decide, [es[i].key, es[i].val], .cons (eu ▸ e3) (.cons (ez ▸ d3) .nil), ⟨_, hT2, rfl, _, rfl⟩⟩
    have I1 : Inv X pins σ (upd H s.heap.objs.size (.frz { cls := .type "tuple", data := .seq #[es[i].key, es[i].val] } (.tup [x, y]))) { s with heap := h'' } :=
      I.turnedNew (t' := s.toks) (ch := [it]) (fun b ob hb e => (sb.2 b (by simpa using hb)).trans (hk b ob (by simpa using hb) e)) hf (Nat.le_refl _) new
    refine ⟨.ref s.heap.objs.size, _, I1, rfl, ⟨_, x, y, e1, d1, rfl, I.hok.fresh (Nat.le_refl _), _, rfl, rfl⟩, ⟨_, _, he'⟩, fun b hb => ?_⟩
    have e : b = it := by simpa using hb
    rw [e, upd_ne (Nat.ne_of_lt hlt)]
    exact (hf it (by simp)).1
  done := by
    intro X hP hw' hK hc i pins s σ H E I hf st hg
    subst hP hw' hK
    obtain ⟨hd, hi⟩ := hg
    obtain ⟨f0, f1, f2, f3, f4, f5⟩ := hf it (by simp)
    have hgd := raw_at I hd
    have hl : bs.length = es.size := by have := hv.length; rwa [List.length_map, Array.length_toList] at this
    obtain ⟨ok, ov, he⟩ := st
    exact wpAny_pyNext_items_end_raw (I.ok.hd hc) he ⟨o, hgd, ex, hod⟩ (by omega) fun h' eb => ⟨rfl, I.turned (t' := s.toks) (fun b ob hb e => eb b ob hb e) f0 f1 f3 f4 f5⟩
  self := fun A i s Q E st h => let ⟨_, _, e⟩ := st; PySem.W.kcp_self e h
end
/-- a dict object read: its raw object, its keys, its values -/
def RawAt (H : Hp) (x : V) (a : Addr) (o : Obj) (bs vals : List V) : Prop := x = .ref a ∧ H a = some (rawO a o) ∧ (a == sysModules) = false ∧ ∃ es ep, o.ExactDict ∧ o.data = .dict es ep ∧ Vals bs (es.toList.map (·.key)) ∧ Vals vals (es.toList.map (·.val)) ∧ es.size ≤ sizeLine
theorem DRel.rawAt {K : KW} {G H : Hp} {a : Addr} {ks : List PyData} {vals : List V} (h : DRel K G H a ks vals) : ∃ o bs, RawAt H (.ref a) a o bs vals ∧ IsAll K G bs ks := by
  obtain ⟨o, es, ep, bs, h1, hr, h3, h4, h5⟩ := h
  exact ⟨o, bs, ⟨rfl, h1, hr.sm, es, ep, hr.ex, hr.dt, h3, h5, hr.sz⟩, h4⟩
section
variable {X : Cx} {tg e : Expr} {td : TE} {apos cpos : Pos}
/-- whatever is walked: a list, a tuple, a text, a dict's keys -/
def iAny (K : PySem.W.Frag) (te : TE) : TI := fun σ H R => te σ H fun x H1 => ((∃ a xs, x = .ref a ∧ SqL K H1 a xs ∧ R (Itl K a) H1) ∨ (∃ a xs, x = .ref a ∧ SqT K H1 a xs ∧ R (Itt K a) H1) ∨ ∃ z, x = .str z ∧ R (Its z) H1) ∨ ∃ a o bs vals, RawAt H1 x a o bs vals ∧ R (Irk a o bs) H1
theorem pi_any {te : TE} (he : PE X e te) : PI X tg e (iAny X.K te) := by
  refine ⟨fun pins s σ H R I h => ?_⟩
  refine thn (he.run pins s σ H _ I h) fun v s1 ⟨x, H1, I1, r1, q1⟩ => ?_
  rcases q1 with (⟨a, xs, rfl, hq, q⟩ | ⟨a, xs, rfl, hq, q⟩ | ⟨z, rfl, q⟩) | ⟨a, o, bs, vals, ⟨rfl, h1, sm, es, ep, ex, hod, hv, hw, sz⟩, q⟩
  · cases r1
    obtain ⟨its, rv, p, hz⟩ := I1.list hq
    exact wpAny_pyIter_list p.isList (pi_one (tk := s1.toks) I1 _ (turn_list a _) ⟨_, Heap.get?_push_size _ rfl, rfl, rfl⟩ q)
  · cases r1
    obtain ⟨its, rv, p, hz⟩ := I1.tuple hq
    exact wpAny_pyIter_tuple (show s1.heap.IsTuple a its.toArray from p) (pi_one (tk := s1.toks) I1 _ (turn_tuple a _) ⟨_, Heap.get?_push_size _ rfl, rfl, rfl⟩ q)
  · obtain ⟨t, rfl⟩ := r1
    cases ha : z.cps.all (· < 128)
    · exact wpAny_pyIter_wide ha (pi_one (tk := s1.toks) I1 _ (turn_str _ z t "str_iterator" (.inr rfl)) ⟨_, Heap.get?_push_size _ rfl, rfl, rfl⟩ q)
    · exact wpAny_pyIter_ascii ha (pi_one (tk := s1.toks) I1 _ (turn_str _ z t "str_ascii_iterator" (.inl rfl)) ⟨_, Heap.get?_push_size _ rfl, rfl, rfl⟩ q)
  · cases r1
    exact wpAny_pyIter_dict_raw sm ⟨o, raw_at I1 h1, ex, hod⟩ (pi_one (tk := s1.toks) I1 _ (turn_rk _ ex hod hv) ⟨_, Heap.get?_push_size _ rfl, rfl, rfl⟩ q)
def iRv (td : TE) : TI := fun σ H R => td σ H fun x H1 => ∃ a o bs vals, RawAt H1 x a o bs vals ∧ R (Irk a o vals) H1
def iRi (td : TE) : TI := fun σ H R => td σ H fun x H1 => ∃ a o bs vals, RawAt H1 x a o bs vals ∧ R (Iri a o bs vals) H1
theorem pi_rv (he : PE X e td) (hbase : attributeBase e "values" X.env (eval e X.env) = eval e X.env := by rfl) (hline : (apos.endLine == cpos.line) = true := by rfl) : PI X tg (.Call (.Attribute e "values" apos) [] [] cpos) (iRv td) := by
  refine ⟨fun pins s σ H R I h => ?_⟩
  refine wpAny_Call_method (T := "dict") (id := "dict.values") hbase rfl hline F.plainAttrs_dict F.slot_dict_values F.type_dict_values (thn (he.run pins s σ H _ I h) fun u s1 ⟨x, H1, I1, rx, a, o, bs, vals, ⟨ex, h1, sm, es, ep, exd, hod, hv, hw, sz⟩, q⟩ => ?_)
  subst ex
  obtain rfl : u = Value.ref a := rx
  have hg := raw_at I1 h1
  have hraw : s1.heap.DictRaw a es ep := ⟨o, hg, exd, hod⟩
  refine ⟨hraw.typeIs, fun b e => by cases e; exact ⟨o, hg, exd.2.1⟩, ?_⟩
  have I2 : Inv X pins σ H1 { s1 with heap := s1.heap.push { cls := .type "dict_values", data := .fields #[.ref a] } } := I1.kept (t' := s1.toks) fun b ob q => Heap.get?_push_of_some _ q
  have fin : wpAny (model X.prog X.w) X.A (pyIter (.ref s1.heap.objs.size)) (PIE X pins σ tg R) X.xe { s1 with heap := s1.heap.push { cls := .type "dict_values", data := .fields #[.ref a] } } := by
    exact wpAny_pyIter_values_raw (d := a) ⟨_, Heap.get?_push_size _ rfl, rfl, rfl⟩ (hraw.at fun o e => Heap.get?_push_of_some _ e) (pi_one (tk := s1.toks) I2 _ (turn_rv _ exd hod hw) ⟨_, Heap.get?_push_size _ rfl, rfl, rfl⟩ q)
  show wpAny _ _ (callWith cpos (.builtin "dict.values") [.ref a] [] []) _ X.xe s1
  exact method_meetsIn F.slot_dict_values F.entry_dict_values rfl (PySem.evalArgs_none ⟨rfl, hraw.typeIs, F.args_dict_values_1 _, _, meets_dict_values_raw a sm, ⟨es, ep, hraw⟩, fin⟩)
theorem pi_ri {elts : List Expr} {kk : Nat} {tpos : Pos} (he : PE X e td) (hbase : attributeBase e "items" X.env (eval e X.env) = eval e X.env := by rfl) (hline : (apos.endLine == cpos.line) = true := by rfl) :
    PI X (.Tuple elts kk tpos) (.Call (.Attribute e "items" apos) [] [] cpos) (iRi td) := by
  refine ⟨fun pins s σ H R I h => ?_⟩
  refine wpAny_Call_method (T := "dict") (id := "dict.items") hbase rfl hline F.plainAttrs_dict F.slot_dict_items F.type_dict_items (thn (he.run pins s σ H _ I h) fun u s1 ⟨x, H1, I1, rx, a, o, bs, vals, ⟨ex, h1, sm, es, ep, exd, hod, hv, hw, sz⟩, q⟩ => ?_)
  subst ex
  obtain rfl : u = Value.ref a := rx
  have hg := raw_at I1 h1
  have hraw : s1.heap.DictRaw a es ep := ⟨o, hg, exd, hod⟩
  refine ⟨hraw.typeIs, fun b e => by cases e; exact ⟨o, hg, exd.2.1⟩, ?_⟩
  have I2 : Inv X pins σ H1 { s1 with heap := s1.heap.push { cls := .type "dict_items", data := .fields #[.ref a] } } := I1.kept (t' := s1.toks) fun b ob q => Heap.get?_push_of_some _ q
  have fin : wpAny (model X.prog X.w) X.A (pyIter (.ref s1.heap.objs.size)) (PIE X pins σ (.Tuple elts kk tpos) R) X.xe { s1 with heap := s1.heap.push { cls := .type "dict_items", data := .fields #[.ref a] } } := by
    exact wpAny_pyIter_items_raw (d := a) ⟨_, Heap.get?_push_size _ rfl, rfl, rfl⟩ (hraw.at fun o e => Heap.get?_push_of_some _ e) (pi_one (tk := s1.toks) I2 _ (turn_ri _ exd hod hv hw) ⟨.none, .none, Heap.get?_push_size _ rfl⟩ q)
  show wpAny _ _ (callWith cpos (.builtin "dict.items") [.ref a] [] []) _ X.xe s1
  exact method_meetsIn F.slot_dict_items F.entry_dict_items rfl (PySem.evalArgs_none ⟨rfl, hraw.typeIs, F.args_dict_items_1 _, _, meets_dict_items_raw a sm, ⟨es, ep, hraw⟩, fin⟩)
/-- list(d) -/
def rListR : List V → Hp → VK → Prop := fun xs H Q => ∃ x a o bs vals, xs = [x] ∧ RawAt H x a o bs vals ∧ ∀ p, H p = none → Q (.ref p) (upd H p (.lst bs))
theorem call_listR (hc : X.calm = true) : CallR X (.type "list") rListR := by
  intro pins s σ H xs us Q I r h
  obtain ⟨x, a, o, bs, vals, rfl, ⟨rfl, h1, sm, es, ep, exd, hod, hv, hw, sz⟩, q⟩ := h
  obtain ⟨u, rfl, rx⟩ := r.one
  cases rx
  have hg := raw_at I h1
  have hl : bs.length = es.size := by have := hv.length; rwa [List.length_map, Array.length_toList] at this
  refine PySem.W.kdl_call (kdl_raw sm exd hod) (I.ok.hd hc) hg (by omega) fun h' tk acc' c' kp e it => ?_
  have ea : acc'.toList = es.toList.map (·.key) := by
    have hl' : acc'.toList.length = es.size := by rw [Array.length_toList, it.1]
    apply List.ext_getElem?
    intro j
    rw [List.getElem?_map]
    cases hj : acc'.toList[j]? with
    | none =>
      have h1 := List.getElem?_eq_none_iff.mp hj
      rw [List.getElem?_eq_none (by rw [Array.length_toList]; omega)]
      rfl
    | some v =>
      obtain ⟨en, hen, hv⟩ := it.2 j v (by rw [← Array.getElem?_toList]; exact hj)
      rw [Array.getElem?_toList, hen, hv]
      rfl
  refine ⟨.ref s.heap.objs.size, _, I.laid (t' := tk) (o := .lst bs) kp (Nat.le_refl _) ?_, rfl, q _ (I.hok.fresh (Nat.le_refl _))⟩
  exact ⟨by omega, acc'.toList, c', by rw [ea]; exact hv, by rw [Array.toArray_toList]; exact e⟩
end
end DL

/-! DL19: the rules of dicts, by data. -/
namespace DL
open PySem PySem.Spec PyProof.Rows L2
section
variable {X : Cx} {Z : Wish} {pos : Pos} {K : KW} {G0 H0 Hs G H G' H' : Hp} {σ : L2.St} {ρ : En} {v : V} {w : W} {tg e : Expr} {te : TEd}
/-- the keys of a dict that is read -/
def asK : W → Option (List PyData)
  | .d (.dict kvs) => some (dkeys kvs)
  | .x (.m kvs) => some (dkeys kvs)
  | .x (.bm kvs) => some (dkeys kvs)
  | .x (.rm kvs) => some (dkeys kvs)
  | .x (.ml kvs) => some (lkeys kvs)
  | .x (.rml kvs) => some (lkeys kvs)
  | _ => none
/-- a dict that is read, its values data -/
def asKV : W → Option (List (PyData × PyData))
  | .d (.dict kvs) => some kvs
  | .x (.m kvs) => some kvs
  | .x (.bm kvs) => some kvs
  | .x (.rm kvs) => some kvs
  | _ => none
theorem RR.asKV {kvs : List (PyData × PyData)} (h : RR K H0 Hs G H v w) (E : DEnv K G0 H0 G H σ ρ) (e : asKV w = some kvs) : ∃ p vals, v = .ref p ∧ DRel K G H p (dkeys kvs) vals ∧ IsAll K G vals (dvals kvs) := by
  cases w with
  | d y =>
    cases y <;> cases e
    obtain ⟨p, vals, rfl, h1, h2⟩ := Is.inD h
    exact ⟨p, vals, rfl, h1.up (Ex.refl _) (E.gh p), h2⟩
  | x y =>
    cases y <;> cases e
    · obtain ⟨p, vals, e, _, _, _, h3, h4⟩ := h
      exact ⟨p, vals, e, h3, h4⟩
    · obtain ⟨p, vals, e, h3, h4⟩ := h
      exact ⟨p, vals, e, h3.up (Ex.refl _) (E.up.h p), h4⟩
    · exact h
  | _ => cases e
theorem RR.asK {ks : List PyData} (h : RR K H0 Hs G H v w) (E : DEnv K G0 H0 G H σ ρ) (e : asK w = some ks) : ∃ p vals, v = .ref p ∧ DRel K G H p ks vals := by
  have go : ∀ kvs : List (PyData × PyData), DL.asKV w = some kvs → dkeys kvs = ks → ∃ p vals, v = .ref p ∧ DRel K G H p ks vals := fun kvs h1 h2 => by
    obtain ⟨p, vals, a, b, _⟩ := RR.asKV h E h1
    exact ⟨p, vals, a, h2 ▸ b⟩
  cases w with
  | d y => cases y <;> cases e; exact go _ rfl rfl
  | x y =>
    cases y <;> cases e
    · exact go _ rfl rfl
    · obtain ⟨p, ls, e, _, _, _, h3, _⟩ := h
      exact ⟨p, _, e, h3⟩
    · exact go _ rfl rfl
    · exact go _ rfl rfl
    · obtain ⟨p, ls, e, h3, _⟩ := h
      exact ⟨p, _, e, h3⟩
  | _ => cases e
/-! ### in -/
def gInY (neg : Bool) (x y : W) (Q : W → Prop) : Prop := match asK y with
  | some ks => match x with
    | .d kd => keyFit kd ks ∧ Q (.d (.bool (ngB neg (dhas ks kd))))
    | _ => False
  | none => inX neg x y Q
def rInY (K : KW) : R2 := fun x y H Q => rInX K x y H Q ∨ rInDict K false x y H Q
def rNotInY (K : KW) : R2 := fun x y H Q => rNotInX K x y H Q ∨ rInDict K true x y H Q
theorem op_inY (hu : X.A.units + 65 < cLine) : OpR X (compareOp .In) (rInY (kw X)) := (op_inX hu).or (op_inDict hu)
theorem op_notInY (hu : X.A.units + 65 < cLine) : OpR X (compareOp .NotIn) (rNotInY (kw X)) := (op_notInX hu).or (op_notInDict hu)
theorem od_inY : OpD K (rInY K) (gInY false) := by
  intro G0 H0 Hx Hy G H σ ρ x y wx wy Q' Q E rx ry q k
  unfold gInY at q
  split at q
  · rename_i ks e1
    split at q
    · obtain ⟨hf, q⟩ := q
      obtain ⟨p, vals, rfl, hd⟩ := ry.asK E e1
      exact .inr ⟨G, _, _, _, ⟨p, rfl, E.gh, hd⟩, rx, hf, k _ (.d (.bool _)) G H (Up.refl E.gh) (.bl _) q⟩
    · exact q.elim
  · exact .inl (od_inX G0 H0 Hx Hy G H σ ρ x y wx wy Q' Q E rx ry q k)
theorem od_notInY : OpD K (rNotInY K) (gInY true) := by
  intro G0 H0 Hx Hy G H σ ρ x y wx wy Q' Q E rx ry q k
  unfold gInY at q
  split at q
  · rename_i ks e1
    split at q
    · obtain ⟨hf, q⟩ := q
      obtain ⟨p, vals, rfl, hd⟩ := ry.asK E e1
      exact .inr ⟨G, _, _, _, ⟨p, rfl, E.gh, hd⟩, rx, hf, k _ (.d (.bool _)) G H (Up.refl E.gh) (.bl _) q⟩
    · exact q.elim
  · exact .inl (od_notInX G0 H0 Hx Hy G H σ ρ x y wx wy Q' Q E rx ry q k)
/-! ### d[k] -/
def gIxY (x y : W) (Q : W → Prop) : Prop := match asKV x with
  | some kvs => match y with
    | .d kd => keyFit kd (dkeys kvs) ∧ ∃ d, dget (dkeys kvs) (dvals kvs) kd = some d ∧ Q (.d d)
    | _ => False
  | none => gIx x y Q
def rIxY (K : KW) : R2 := fun x y H Q => rIx K x y H Q ∨ rIxDict K x y H Q
theorem ix_Y (hu : X.A.units + 65 < cLine) : IxR X (rIxY (kw X)) := ix_seq.or (ix_dict hu)
theorem od_ixY : OpD K (rIxY K) gIxY := by
  intro G0 H0 Hx Hy G H σ ρ x y wx wy Q' Q E rx ry q k
  unfold gIxY at q
  split at q
  · rename_i kvs e1
    split at q
    · obtain ⟨hf, d, hg, q⟩ := q
      obtain ⟨p, vals, rfl, hd, hv⟩ := rx.asKV E e1
      obtain ⟨u, hu, iu⟩ := hv.dget hg
      exact .inr ⟨G, _, _, _, u, ⟨p, rfl, E.gh, hd⟩, ry, hf, hu, k _ (.d d) G H (Up.refl E.gh) iu q⟩
    · exact q.elim
  · exact .inl (od_ix G0 H0 Hx Hy G H σ ρ x y wx wy Q' Q E rx ry q k)
theorem d_ixY {a b : Expr} {ta tb : TEd} (hu : X.A.units + 65 < cLine) (ha : PD X Z a ta) (hb : PD X Z b tb) (hs : PlainIx b := by exact fun _ _ => rfl) : PD X Z (.Subscript a b pos) (dOp gIxY ta tb) := by
  obtain ⟨ua, pa, sa⟩ := ha
  obtain ⟨ub, pb, sb⟩ := hb
  exact ⟨_, pe_ix (ix_Y hu) pa pb hs, snd_op od_ixY sa sb⟩
/-! ### {} -/
theorem drel_nil {a : Addr} (hb : (a == sysModules) = false) (e : H a = some (rawO a { cls := .type "dict", data := .dict #[] })) : DRel K G H a [] [] :=
  ⟨_, #[], 0, [], e, ⟨⟨rfl, rfl, rfl⟩, rfl, Nat.zero_le _, hb, List.nodup_nil, [], rfl, (fun k hk => by cases hk), rfl⟩, .nil, .nil, .nil⟩
def tDNewR : TE := fun _ H Q => ∀ p, H p = none → (p == sysModules) = false → Q (.ref p) (upd H p (rawO p { cls := .type "dict", data := .dict #[] }))
theorem pe_dnewR : PE X (.Dict [] [] pos) tDNewR := ⟨fun pins s σ H Q I h =>
  wpAny_Dict_empty ⟨.ref s.heap.objs.size, _, I.laid (a := s.heap.objs.size) (o := rawO s.heap.objs.size { cls := .type "dict", data := .dict #[] }) (t' := s.toks) (fun _ _ q => Heap.get?_push_of_some _ q) (Nat.le_refl _) (raw_ok (Heap.get?_push_size _ rfl)), rfl,
    h _ (I.hok.fresh (Nat.le_refl _)) (beq_eq_false_iff_ne.mpr (Ne.symm (Nat.ne_of_lt I.big)))⟩⟩
theorem d_dict0 : PD X Z (.Dict [] [] pos) (fun _ Q => Q (.x (.m []))) := by
  refine ⟨_, pe_dnewR, fun G0 H0 G H σ ρ Q' Q E gd h k p hp sm => ?_⟩
  exact k _ (.x (.m [])) G _ (Up.newH E.gh hp) ⟨p, [], rfl, hp, E.gh.back hp, trivial, drel_nil sm upd_same, .nil⟩ h
/-- {}, to be a dict of lists -/
theorem d_dict0L : PD X Z (.Dict [] [] pos) (fun _ Q => Q (.x (.ml []))) := by
  refine ⟨_, pe_dnewR, fun G0 H0 G H σ ρ Q' Q E gd h k p hp sm => ?_⟩
  exact k _ (.x (.ml [])) G _ (Up.newH E.gh hp) ⟨p, [], rfl, hp, E.gh.back hp, trivial, drel_nil sm upd_same, .nil, (fun l hl => by cases hl), by simp⟩ h
/-! ### list(d) -/
theorem rawAt_size {H : Hp} {x : V} {a : Addr} {o : Obj} {bs vals : List V} (h : RawAt H x a o bs vals) : bs.length ≤ sizeLine ∧ vals.length = bs.length := by
  obtain ⟨_, _, _, es, ep, _, _, hb, hv, hz⟩ := h
  have h1 := hb.length
  have h2 := hv.length
  rw [List.length_map, Array.length_toList (xs := es)] at h1 h2
  exact ⟨by omega, by omega⟩
def rListY (K : KW) : List V → Hp → VK → Prop := fun xs H Q => (∃ p ys, xs = [.ref p] ∧ (SqL K H p ys ∨ SqT K H p ys) ∧ ∀ l, H l = none → Q (.ref l) (upd H l (.lst ys))) ∨ rListR xs H Q
def gListY (ws : List W) (Q : W → Prop) : Prop := match ws with
  | [w] => match asK w with
    | some ks => Q (.l ks)
    | none => gList [w] Q
  | _ => False
theorem cd_listY : CallD K (rListY K) gListY := by
  intro G0 H0 Hx G H σ ρ vs ws Q' Q E r q k
  unfold gListY at q
  split at q
  · split at q
    · rename_i ks e1
      obtain ⟨v, rfl, r1⟩ := r.one
      obtain ⟨p, vals, rfl, hd⟩ := r1.asK E e1
      obtain ⟨o, bs, hr, al⟩ := hd.rawAt
      have hz : ks.length ≤ sizeLine := al.len ▸ (rawAt_size hr).1
      exact .inr ⟨_, p, o, bs, vals, rfl, hr, fun l hl => k _ (.l ks) G _ (Up.newH E.gh hl) ⟨l, bs, rfl, hl, E.gh.back hl, trivial, upd_same, hz, al⟩ q⟩
    · exact .inl (cd_list G0 H0 Hx G H σ ρ vs _ Q' Q E r q k)
  · exact q.elim
/-! ### walks -/
theorem itOk_rk {Hb : Hp} {a : Addr} {o : Obj} {vs : List V} {ds : List PyData} (h : ∀ G' H', Ex G G' → Ex G' H' → Ex Hb H' → H' a = some (rawO a o)) (al : IsAll K G vs ds) : ItOk K G Hb (Irk a o vs) ds := by
  intro G' H' e1 e2 e3 i
  have hs := h G' H' e1 e2 e3
  refine ⟨fun d hd => ?_, fun hi => ⟨hs, by rw [al.len]; exact Nat.le_of_eq hi⟩⟩
  obtain ⟨v, hv, iv⟩ := al.get hd
  refine ⟨⟨hs, (List.getElem?_eq_some_iff.mp hv).1⟩, fun x H'' y => ?_⟩
  obtain ⟨rfl, y⟩ := y
  rw [hv] at y; cases y
  exact ⟨G', Up.refl e2, iv.up e1⟩
theorem itOk_ri {Hb : Hp} {a : Addr} {o : Obj} {bs vals : List V} {kvs : List (PyData × PyData)} (h : ∀ G' H', Ex G G' → Ex G' H' → Ex Hb H' → H' a = some (rawO a o)) (al : IsAll K G bs (dkeys kvs)) (av : IsAll K G vals (dvals kvs)) : ItOk K G Hb (Iri a o bs vals) (kvs.map fun p => .tuple [p.1, p.2]) := by
  intro G' H' e1 e2 e3 i
  have hs := h G' H' e1 e2 e3
  refine ⟨fun d hd => ?_, fun hi => ⟨hs, by rw [al.len, List.length_map]; rw [List.length_map] at hi; exact Nat.le_of_eq hi⟩⟩
  rw [List.getElem?_map] at hd
  cases hp : kvs[i]? with
  | none => rw [hp] at hd; cases hd
  | some p =>
    rw [hp] at hd
    cases hd
    obtain ⟨b, hb, ib⟩ := al.get (i := i) (d := p.1) (by rw [List.getElem?_map, hp]; rfl)
    obtain ⟨u, hu, iu⟩ := av.get (i := i) (d := p.2) (by rw [List.getElem?_map, hp]; rfl)
    refine ⟨⟨hs, (List.getElem?_eq_some_iff.mp hb).1⟩, fun x H'' y => ?_⟩
    obtain ⟨q, k, v, hk, hv, rfl, hq, ob, od, rfl⟩ := y
    rw [hb] at hk; cases hk
    rw [hu] at hv; cases hv
    have u1 := Up.newG (o := .frz ob (.tup [b, u])) e2 hq
    exact ⟨_, u1, Is.newT od (e2.back hq) (by show 2 ≤ sizeLine; rw [sizeLine_eq]; decide) (.cons (ib.up e1) (.cons (iu.up e1) .nil))⟩
/-- what is read of a dict while the walk goes on -/
def okWalk (lc : Bool) : W → Bool
  | .d _ => true
  | .x (.bm _) => true
  | .x (.rm _) => lc
  | .x (.m _) => lc
  | _ => false
theorem walk_at {lc : Bool} {kvs : List (PyData × PyData)} (E : DEnv K G0 H0 G H σ ρ) (r : RR K H0 Hs G H v w) (e : asKV w = some kvs) (ok : okWalk lc w = true) :
    ∃ a o bs vals, RawAt H v a o bs vals ∧ IsAll K G bs (dkeys kvs) ∧ IsAll K G vals (dvals kvs) ∧ ∀ G' H', Ex G G' → Ex G' H' → Ex (if lc then H else H0) H' → H' a = some (rawO a o) := by
  cases w with
  | d y =>
    cases y <;> cases e
    obtain ⟨p, vals, rfl, h1, h2⟩ := Is.inD r
    obtain ⟨o, bs, hr, al⟩ := h1.rawAt
    obtain ⟨_, g1, rest⟩ := hr
    exact ⟨p, o, bs, vals, ⟨rfl, E.gh _ _ g1, rest⟩, al, h2, fun G' H' e1 e2 _ => e2 _ _ (e1 _ _ g1)⟩
  | x y =>
    cases y with
    | bm kvs0 =>
      cases e
      obtain ⟨p, vals, rfl, h1, h2⟩ := r
      obtain ⟨o, bs, hr, al⟩ := h1.rawAt
      obtain ⟨_, g1, rest⟩ := hr
      refine ⟨p, o, bs, vals, ⟨rfl, E.up.h _ _ g1, rest⟩, al, h2, fun G' H' _ _ e3 => ?_⟩
      cases lc with
      | true => exact e3 _ _ (E.up.h _ _ g1)
      | false => exact e3 _ _ g1
    | m kvs0 =>
      cases e
      have hl : lc = true := ok
      subst hl
      obtain ⟨p, vals, rfl, h1, h2⟩ := RR.asKV r E rfl
      obtain ⟨o, bs, hr, al⟩ := h1.rawAt
      exact ⟨p, o, bs, vals, hr, al, h2, fun G' H' _ _ e3 => e3 _ _ hr.2.1⟩
    | rm kvs0 =>
      cases e
      have hl : lc = true := ok
      subst hl
      obtain ⟨p, vals, rfl, h1, h2⟩ := RR.asKV r E rfl
      obtain ⟨o, bs, hr, al⟩ := h1.rawAt
      exact ⟨p, o, bs, vals, hr, al, h2, fun G' H' _ _ e3 => e3 _ _ hr.2.1⟩
    | _ => cases e
  | _ => cases e
def onKV (lc : Bool) (w : W) (k : List (PyData × PyData) → Prop) : Prop := match asKV w with
  | some kvs => onOk (okWalk lc w) (k kvs)
  | none => False
theorem onKV_of {lc : Bool} {k : List (PyData × PyData) → Prop} (h : onKV lc w k) : ∃ kvs, asKV w = some kvs ∧ okWalk lc w = true ∧ k kvs := by
  unfold onKV at h
  split at h
  · rename_i kvs e
    obtain ⟨a, b⟩ := onOk_of h
    exact ⟨kvs, e, a, b⟩
  · exact h.elim
def dKeysI (lc : Bool) (t : TEd) : TId := fun ρ Q => t ρ fun w => onKV lc w fun kvs => Q (dkeys kvs)
def dValsI (lc : Bool) (t : TEd) : TId := fun ρ Q => t ρ fun w => onKV lc w fun kvs => Q (dvals kvs)
def dItemsI (lc : Bool) (t : TEd) : TId := fun ρ Q => t ρ fun w => onKV lc w fun kvs => Q (kvs.map fun p => .tuple [p.1, p.2])
/-- the keys of a dict, or what else is walked -/
def dAnyI (lc : Bool) (t : TEd) : TId := fun ρ Q => t ρ fun w => match asKV w with
  | some kvs => onOk (okWalk lc w) (Q (dkeys kvs))
  | none => gSeq lc w Q
theorem di_any {lc : Bool} (h : PD X Z e te) : PDI lc X Z tg e (dAnyI lc te) := by
  obtain ⟨ue, p, s⟩ := h
  refine ⟨_, pi_any p, fun G0 H0 G H σ ρ Q' R E gd hh k => ?_⟩
  refine s G0 H0 G H σ ρ _ _ E gd hh fun v w G1 H1 u1 r1 q1 => ?_
  split at q1
  · rename_i kvs e1
    obtain ⟨ok, q⟩ := onOk_of q1
    obtain ⟨a, o, bs, vals, hr, al, av, st⟩ := walk_at (E.to u1) r1 e1 ok
    have hz := rawAt_size hr
    exact .inr ⟨a, o, bs, vals, hr, k _ G1 H1 _ u1 (itOk_rk st al) (by rw [← al.len]; exact hz.1) q⟩
  · exact .inl (seq_at (E.to u1) u1 r1 q1 k)
theorem di_values {lc : Bool} {apos cpos : Pos} (h : PD X Z e te) (hbase : attributeBase e "values" X.env (eval e X.env) = eval e X.env := by rfl) (hline : (apos.endLine == cpos.line) = true := by rfl) :
    PDI lc X Z tg (.Call (.Attribute e "values" apos) [] [] cpos) (dValsI lc te) := by
  obtain ⟨ue, p, s⟩ := h
  refine ⟨_, pi_rv p hbase hline, fun G0 H0 G H σ ρ Q' R E gd hh k => ?_⟩
  refine s G0 H0 G H σ ρ _ _ E gd hh fun v w G1 H1 u1 r1 q1 => ?_
  obtain ⟨kvs, e1, ok, q⟩ := onKV_of q1
  obtain ⟨a, o, bs, vals, hr, al, av, st⟩ := walk_at (E.to u1) r1 e1 ok
  have hz := rawAt_size hr
  exact ⟨a, o, bs, vals, hr, k _ G1 H1 _ u1 (itOk_rk st av) (by rw [← av.len]; omega) q⟩
theorem di_items {lc : Bool} {apos cpos : Pos} {elts : List Expr} {kk : Nat} {tpos : Pos} (h : PD X Z e te) (hbase : attributeBase e "items" X.env (eval e X.env) = eval e X.env := by rfl) (hline : (apos.endLine == cpos.line) = true := by rfl) :
    PDI lc X Z (.Tuple elts kk tpos) (.Call (.Attribute e "items" apos) [] [] cpos) (dItemsI lc te) := by
  obtain ⟨ue, p, s⟩ := h
  refine ⟨_, pi_ri p hbase hline, fun G0 H0 G H σ ρ Q' R E gd hh k => ?_⟩
  refine s G0 H0 G H σ ρ _ _ E gd hh fun v w G1 H1 u1 r1 q1 => ?_
  obtain ⟨kvs, e1, ok, q⟩ := onKV_of q1
  obtain ⟨a, o, bs, vals, hr, al, av, st⟩ := walk_at (E.to u1) r1 e1 ok
  have hz := rawAt_size hr
  exact ⟨a, o, bs, vals, hr, k _ G1 H1 _ u1 (itOk_ri st al av) (by have := al.len; rw [List.length_map] at this ⊢; omega) q⟩
end
end DL

/-! DL20: dicts changed: d[k] = v, d.setdefault(k, []).append(v). -/
namespace DL
open PySem PySem.Spec PyProof.Rows L2
section
variable {X : Cx} {Z : Wish} {pos : Pos} {K : KW} {G0 H0 Hs G H G' H' : Hp} {σ : L2.St} {ρ : En} {v : V} {w : W} {tg e : Expr} {te : TEd}
/-! ### what is never reached -/
def sNever : TSd := fun _ _ => False
theorem ds_never {st : Stmt} : PDS X Z st sNever := ⟨fun _ _ _ => False, ⟨fun _ _ _ _ _ _ h => h.elim⟩, fun _ _ _ _ _ _ _ _ _ _ h => h.elim⟩
/-! ### d[k] = v -/
theorem pset_or {r r' : V → V → V → Hp → (Hp → Prop) → Prop} (h : PSet X r) (h' : PSet X r') : PSet X (fun o i v H Q => r o i v H Q ∨ r' o i v H Q) :=
  fun pins s σ H o i v ov iv u Q I ro ri rv q => q.elim (h pins s σ H o i v ov iv u Q I ro ri rv) (h' pins s σ H o i v ov iv u Q I ro ri rv)
theorem DEnv.putX (E : DEnv K G0 H0 G H σ ρ) {i : Nat} {p : Addr} {kvs kvs' : List (PyData × PyData)} {vals : List V} {ob : HO} (hi : ρ[i]? = some (some (.x (.m kvs)))) (hp : σ[i]? = some (some (.ref p)))
    (dr : ∀ H' : Hp, H' p = some ob → DRel K G H' p (dkeys kvs') vals) (hv : IsAll K G vals (dvals kvs')) : DEnv K G0 H0 G (upd H p ob) σ (ρ.set i (some (.x (.m kvs')))) := by
  obtain ⟨v, P, a, b, hP, k⟩ := E.chg hi
  rw [hp] at a; cases a
  obtain ⟨⟨p', vals', e, h1, h2, hp', h3, _⟩, _⟩ := b
  cases e
  refine k _ [] (.x (.m kvs')) (fun a ha => by cases ha) (fun a o ho hn => ?_) (fun a ha => ?_) ⟨⟨p, vals, rfl, h1, h2, .inl hp', dr _ upd_same, hv⟩, (fun xs z => nomatch z), (fun xs z => nomatch z), fun xs z => nomatch z⟩
  · rw [upd_ne (fun z : a = p => hn (by rw [z]; exact hp'))]; exact ho
  · by_cases z : a = p
    · subst z; rw [upd_same]; exact fun z => nomatch z
    · rw [upd_ne z]; exact (hP a ha).1
/-- xs[i] = e, or d[k] = e -/
def sSetY (j : Nat) (te ti : TEd) : TSd := fun D ρ => match gx ρ j with
  | some (.x (.m kvs)) => te ρ fun w => ti ρ fun u => onFw w fun y => match u with
    | .d kd => keyFit kd (dkeys kvs) ∧ kvs.length < sizeLine ∧ D.nx (ρ.set j (some (.x (.m (dput kvs kd y)))))
    | _ => False
  | _ => sSetI j te ti D ρ
theorem snd_sety {j : Nat} {ue ui : TE} {ti : TEd} (s1 : Snd K Z ue te) (s2 : Snd K Z ui ti) : SndS K Z (tAsg ue (L2.gSub (tVar j) ui fun o i v H Q => rSetL o i v H Q ∨ rSetD K o i v H Q)) (sSetY j te ti) := by
  intro G0 H0 G H σ ρ D' D E gd h n r b c
  unfold sSetY at h
  split at h
  · rename_i kvs e1
    obtain ⟨v0, hp, ⟨p, vals0, rfl, _⟩, _⟩ := E.slot j _ (gx_some e1)
    refine s1 G0 H0 G H σ ρ _ _ E gd h fun v w G1 H1 u1 r1 q1 => ?_
    refine ⟨.ref p, hp, ?_⟩
    refine s2 G0 H0 G1 H1 σ ρ _ _ (E.to u1) gd q1 fun v2 w2 G2 H2 u2 r2 q2 => ?_
    obtain ⟨y, ey, q⟩ := onFw_of q2
    split at q
    · rename_i kd
      obtain ⟨hf, hl, q⟩ := q
      have u3 := u1.trans u2
      have uf := frzAll_up u3
      have Ef := E.to uf
      obtain ⟨v0', hp', ⟨p', vals, e, _, _, _, hd, hv⟩, _⟩ := Ef.slot j _ (gx_some e1)
      rw [hp] at hp'; cases hp'; cases e
      refine .inr ⟨p, _, dkeys kvs, vals, kd, rfl, uf.gh, hd, Is.up (frzAll_ex (Hs := H) u3.gh) r2, hf, by rw [List.length_map]; exact hl, hd.mut, fun ob dp mu => n _ _ _ _ (Ef.putX (gx_some e1) hp (vals := dputV (dkeys kvs) vals kd v) (fun H' eH => ?_) ?_) q⟩
      · rw [dput_keys]; exact dp H' eH
      · rw [dput_vals]; exact IsAll.dputV ((r1.up u2).frz u3.gh ey) hv
    · exact q.elim
  · obtain ⟨xs, e1, h⟩ := onL_of h
    obtain ⟨p, vs, hp, hv, z, al⟩ := own_at E e1
    refine s1 G0 H0 G H σ ρ _ _ E gd h fun v w G1 H1 u1 r1 q1 => ?_
    refine ⟨.ref p, hp, ?_⟩
    refine s2 G0 H0 G1 H1 σ ρ _ _ (E.to u1) gd q1 fun v2 w2 G2 H2 u2 r2 q2 => ?_
    obtain ⟨y, ey, q⟩ := onFw_of q2
    obtain ⟨i, rfl, q⟩ := onI_of r2 q
    obtain ⟨m, hm, q⟩ := q
    have u3 := u1.trans u2
    have uf := frzAll_up u3
    refine .inl ⟨p, vs, i, m, rfl, rfl, u3.h _ _ hv, by rw [al.len]; exact hm, n _ _ _ _ ((E.to uf).mut (gx_some e1) hp (by rw [List.length_set]; exact z) ((al.up uf.g).set m ((r1.up u2).frz u3.gh ey))) q⟩
theorem ds_setY (j : Nat) {x : Str} {i : Expr} {ti : TEd} {pn p2 : Pos} (hu : X.A.units + 65 < cLine) (he : PD X Z e te) (hi : PD X Z i ti) (hN : X.N[j]? = some x := by rfl) (hv : Vis X.env.scope x := by first | exact Or.inl rfl | exact Or.inr (Or.inl rfl) | exact Or.inr (Or.inr rfl)) (hd : (x == ("__debug__" : Str)) = false := by decide)
    (hcd : (x == ("__classdict__" : Str)) = false := by decide) (ha : ∀ v, assign (.Subscript (.Name x pn) i p2) X.env v = (do
      let ov ← holding [v] (eval (.Name x pn) X.env)
      let iv ← holding [v, ov] (eval i X.env)
      standAt p2
      holding [v, ov, iv] (setItem ov iv v)
      release [v, ov, iv] []) := by intro _; rfl) (hs : swapsWithSole [.Subscript (.Name x pn) i p2] e pos.line X.env = pure false := by rfl) (hw : swappedStores [.Subscript (.Name x pn) i p2] e X.env = pure none := by rfl)
    (h1 : (assignEach [.Subscript (.Name x pn) i p2] X.env).map (·.2) = [assign (.Subscript (.Name x pn) i p2) X.env] := by rfl) : PDS X Z (.Assign [.Subscript (.Name x pn) i p2] e pos) (sSetY j te ti) := by
  obtain ⟨t1, p1, s1⟩ := he
  obtain ⟨t2, p22, s2⟩ := hi
  exact ⟨_, ps_asg p1 (pg_sub (pe_var hN hv hd hcd) p22 (pset_or set_list (set_dict hu)) ha) hs hw h1, snd_sety s1 s2⟩
/-! ### setdefault -/
theorem dget_has {α : Type} {kd : PyData} : ∀ {ks : List PyData} {vs : List α}, vs.length = ks.length → (dget ks vs kd).isSome = dhas ks kd
  | [], [], _ => rfl
  | [], _ :: _, h => by simp at h
  | _ :: _, [], h => by simp at h
  | k :: ks, v :: vs, h => by
    have ih := dget_has (kd := kd) (ks := ks) (vs := vs) (by simpa using h)
    show (if sameKey k kd = true then some v else dget ks vs kd).isSome = (sameKey k kd || dhas ks kd)
    cases sameKey k kd with
    | true => rfl
    | false => rw [if_neg Bool.false_ne_true, ih, Bool.false_or]
def rSetdR (K : KW) : V → V → V → Hp → VK → Prop := fun x y z H Q => ∃ a G ks vals kd, x = .ref a ∧ Ex G H ∧ DRel K G H a ks vals ∧ Is K G y kd ∧ keyFit kd ks ∧ ks.length < sizeLine ∧
  (∀ v, dget ks vals kd = some v → Q v H) ∧ (dhas ks kd = false → ∀ ob : HO, DPutX K G H a ks vals kd z ob → Mut (some ob) → Q z (upd H a ob))
theorem DRel.lens {a : Addr} {ks : List PyData} {vals : List V} (h : DRel K G H a ks vals) : vals.length = ks.length := by
  obtain ⟨o, bs, hr, al⟩ := h.rawAt
  rw [(rawAt_size hr).2, al.len]
theorem call_setdR {pins : List (Addr × Obj)} {s : Shared} {x y z : V} {u1 u2 u3 : Value} {Q : VK} (hu : X.A.units + 65 < cLine) (I : Inv X pins σ H s) (rx : RelV x u1) (ry : RelV y u2) (rz : RelV z u3) (h : rSetdR (kw X) x y z H Q) :
    wpAny (model X.prog X.w) X.A (call (.builtin "dict.setdefault") [u1, u2, u3]) (EP X pins σ Q) X.xe s := by
  obtain ⟨a, G, ks, vals, kd, rfl, g, hd, hx, ⟨⟨nk, e1, e2⟩, hk⟩, hl, q1, q2⟩ := h
  obtain rfl : u1 = .ref a := rx
  have hlen := hd.lens
  have mu := hd.mut
  rcases hk with ⟨t1, t2⟩ | ⟨t1, t2⟩
  · obtain ⟨ys, d1, d2, d3, d4, d5, d6⟩ := hd.tup I g t2
    cases kd with
    | tuple ds =>
      cases hx with | @tup b us _ hs hdz z0 ha =>
      obtain rfl : u2 = .ref b := ry
      have hb : Is (kw X) G (.ref b) (.tuple ds) := .tup hs hdz z0 ha
      have hkey : (nestedKind X.prog X.w).is s.heap nk b := ⟨Is.nested I g hb e1 rfl, e2⟩
      have ly : ks.length = ys.length := by have := congrArg List.length d2; rwa [List.length_map, List.length_map] at this
      obtain ⟨a1, a2⟩ := at_get e1 d2 d4
      refine call_setdefault_heap (knd := nestedKind X.prog X.w) (hsz := d5) (by show X.A.units + 1 + 8 < cLine; omega) hkey d6 d1 (fun p hp => ?_) fun hn h' dd' hs' => ?_
      · cases hg : dget ks vals (.tuple ds) with
        | none =>
          have e3 := dget_has (kd := .tuple ds) hlen
          rw [hg, ← a1, hp] at e3
          cases e3
        | some w =>
          obtain ⟨p', h1, h2⟩ := a2 w hg
          rw [hp] at h1; cases h1
          exact ⟨w, H, I.tok _, h2, q1 w hg⟩
      · obtain ⟨o1, es, ep, g1, g2, g3, g4, g5, g6⟩ := dd'
        obtain ⟨s1, s2, s3⟩ := stored_rel (K := kw X) e1 hb rz d2 d3 d4
        refine ⟨z, _, d_write I mu hs' ⟨o1, g1⟩ (ob := rawO a o1) (raw_ok g1), rz, q2 (by rw [← a1, hn]; rfl) _ (fun H' eH => DRel.ofT (K := kw X) (P := X.prog) s1 (fun y hy => (g5 y hy).2) s2 s3 ?_ d6 g2 g3 g4 g6 eH) True.intro⟩
        unfold storedH
        split
        · rw [List.length_map]; exact d5
        · rw [List.length_append]; show _ + 1 ≤ _; omega
    | _ => simp [isT] at t1
  · obtain ⟨vs, d1, rfl, d3, d4, d5, d6⟩ := hd.sc I t2
    obtain ⟨k, rfl⟩ := sc_key t1
    have hik := sc_is hx
    subst hik
    obtain ⟨a1, a2⟩ := val_get (k := k) d4
    refine call_meetsIn PySem.F.slot_dict_setdefault d1.typeIs PySem.F.entry_dict_setdefault (PySem.F.args_dict_setdefault_3 _ _ _) (PySem.kt_meets_setdefault (mixKind X.prog X.w) a (kV_is ry) d6 u3) ⟨vs, d1, d5, fun v hv => ?_, fun hn h' dd' hs' => ?_⟩
    · cases hg : dget (vs.map fun p => keyD p.1) vals (keyD k) with
      | none =>
        have e3 := dget_has (kd := keyD k) hlen
        rw [hg, ← a1, hv] at e3
        cases e3
      | some w =>
        obtain ⟨p', h1, h2⟩ := a2 w hg
        rw [hv] at h1; cases h1
        exact ⟨w, H, I.tok _, h2, q1 w hg⟩
    · obtain ⟨o1, es, ep, g1, g2, g3, g4, g5, g6⟩ := dd'
      obtain ⟨s1, s2, s3⟩ := stored_sc (K := kw X) (u := u3) hx rz d3 d4
      refine ⟨z, _, d_write I mu hs' ⟨o1, g1⟩ (ob := rawO a o1) (raw_ok g1), rz, q2 (by rw [← a1, hn]; rfl) _ (fun H' eH => ?_) True.intro⟩
      rw [s1]
      refine DRel.ofS (K := kw X) (P := X.prog) s2 s3 ?_ d6 g2 g3 g4 g5 g6 eH
      rw [List.length_map] at hl
      unfold stored
      split
      · rw [List.length_map]; exact d5
      · rw [List.length_append]; show _ + 1 ≤ _; omega
def tSetdR (K : KW) (td ty tx : TE) : TE := fun σ H Q => td σ H fun x H1 => (∃ a o bs vals, RawAt H1 x a o bs vals) ∧ ty σ H1 fun y H2 => tx σ H2 fun z H3 => rSetdR K x y z H3 Q
theorem pe_setdR {o e f : Expr} {td ty tx : TE} {apos cpos : Pos} (hu : X.A.units + 65 < cLine) (ho : PE X o td) (he : PE X e ty) (hf : PE X f tx) (m : M2 X o "setdefault" apos e f cpos) : PE X (.Call (.Attribute o "setdefault" apos) [e, f] [] cpos) (tSetdR (kw X) td ty tx) := by
  refine ⟨fun pins s σ H Q I h => ?_⟩
  refine wpAny_Call_method m.base m.few m.line PySem.F.plainAttrs_dict PySem.F.slot_dict_setdefault PySem.F.type_dict_setdefault (thn (ho.run pins s σ H _ I h) fun u s1 ⟨x, H1, I1, rx, ⟨a, o, bs, vals, ex, h1, sm, es, ep, exd, hod, _⟩, q1⟩ => ?_)
  subst ex
  obtain rfl : u = Value.ref a := rx
  have hg := raw_at I1 h1
  have hraw : s1.heap.DictRaw a es ep := ⟨o, hg, exd, hod⟩
  refine ⟨hraw.typeIs, fun b e => by cases e; exact ⟨o, hg, exd.2.1⟩, ?_⟩
  rw [m.trees]
  refine Calls.callWith_builtin rfl (Calls.evalArgs_plain (Calls.spliced_cons (thn (he.run pins s1 σ H1 _ I1 q1) fun iv s2 ⟨y, H2, I2, ry, q2⟩ =>
    Calls.spliced_cons (thn (hf.run pins s2 σ H2 _ I2 q2) fun fv s3 ⟨z, H3, I3, rz, q3⟩ => Calls.spliced_nil ?_))))
  exact call_setdR hu I3 (show L2.RelV (.ref a) (Value.ref a) from rfl) ry rz q3
/-! ### d.setdefault(k, []).append(v) -/
theorem rawO_inj {a : Addr} {o o' : Obj} {es : Array DictEntry} {ep : Nat} (hd : o.data = .dict es ep) (h : rawO a o = rawO a o') : o = o' := by
  injection h with h
  have h1 : ((({ objs := Array.replicate a o } : Heap).push o).get? a) = some o := by
    have := Heap.get?_push_size ({ objs := Array.replicate a o } : Heap) (Obj.isFreed_of_dict hd)
    rwa [show ({ objs := Array.replicate a o } : Heap).objs.size = a from Array.size_replicate] at this
  have h2 : ((({ objs := Array.replicate a o } : Heap).push o).get? a) = some o' := by
    have := congrFun h (({ objs := Array.replicate a o } : Heap).push o)
    exact this ▸ h1
  rw [h1] at h2
  exact Option.some.inj h2
theorem refs_inj : ∀ {ls ls' : List Addr} {us : List Value}, Vals (ls.map V.ref) us → Vals (ls'.map V.ref) us → ls = ls'
  | [], [], _, _, _ => rfl
  | [], _ :: _, _, h, h' => by cases h; cases h'
  | _ :: _, [], _, h, h' => by cases h'; cases h
  | l :: ls, l' :: ls', us, h, h' => by
    cases h with | cons r1 r2 =>
    cases h' with | cons r3 r4 =>
    cases r1
    cases r3
    rw [refs_inj r2 r4]
theorem DRel.uniq {a : Addr} {ks ks' : List PyData} {ls ls' : List Addr} (h : DRel K G H a ks (ls.map .ref)) (h' : DRel K G' H a ks' (ls'.map .ref)) : ls = ls' := by
  obtain ⟨o, es, ep, bs, h1, hr, _, _, h5⟩ := h
  obtain ⟨o', es', ep', bs', h1', hr', _, _, h5'⟩ := h'
  rw [h1] at h1'
  have e := rawO_inj hr.dt (Option.some.inj h1')
  subst e
  have := hr.dt.symm.trans hr'.dt
  cases this
  exact refs_inj h5 h5'
def lsetd (kvs : List (PyData × List PyData)) (kd : PyData) : List (PyData × List PyData) := if dhas (lkeys kvs) kd = true then kvs else kvs ++ [(kd, [])]
def lapp : List (PyData × List PyData) → PyData → PyData → List (PyData × List PyData)
  | [], _, _ => []
  | p :: r, kd, y => if sameKey p.1 kd = true then (p.1, p.2 ++ [y]) :: r else p :: lapp r kd y
theorem lapp_keys (kd y : PyData) : ∀ kvs, lkeys (lapp kvs kd y) = lkeys kvs
  | [] => rfl
  | p :: r => by
    unfold lapp
    split
    · rfl
    · show p.1 :: lkeys (lapp r kd y) = p.1 :: lkeys r
      rw [lapp_keys kd y r]
theorem dget_map {α β : Type} {f : α → β} {kd : PyData} : ∀ {ks : List PyData} {vs : List α}, dget ks (vs.map f) kd = (dget ks vs kd).map f
  | [], [] => rfl
  | [], _ :: _ => rfl
  | _ :: _, [] => rfl
  | k :: ks, v :: vs => by
    show (if sameKey k kd = true then some (f v) else dget ks (vs.map f) kd) = (if sameKey k kd = true then some v else dget ks vs kd).map f
    split
    · rfl
    · exact dget_map
theorem dget_mem {α : Type} {kd : PyData} {l : α} : ∀ {ks : List PyData} {vs : List α}, dget ks vs kd = some l → l ∈ vs
  | [], [], h => by cases h
  | [], _ :: _, h => by cases h
  | _ :: _, [], h => by cases h
  | k :: ks, v :: vs, h => by
    have h : (if sameKey k kd = true then some v else dget ks vs kd) = some l := h
    split at h
    · cases h; simp
    · exact List.mem_cons_of_mem _ (dget_mem h)
theorem Lsts.at {kd : PyData} {l : Addr} : ∀ {ls : List Addr} {kvs : List (PyData × List PyData)}, Lsts K G H ls (lvals kvs) → dget (lkeys kvs) ls kd = some l → ∃ vs xs, H l = some (.lst vs) ∧ xs ∈ lvals kvs ∧ xs.length ≤ sizeLine ∧ vs.length = xs.length
  | _, [], h, e => by cases h; cases e
  | ls, p :: r, h, e => by
    cases h with | @cons l0 ls0 vs xs xss h1 h2 h3 h4 =>
    have e : (if sameKey p.1 kd = true then some l0 else dget (lkeys r) ls0 kd) = some l := e
    split at e
    · cases e; exact ⟨vs, p.2, h1, by simp, h2, h3.len⟩
    · obtain ⟨vs', xs', a, b, c⟩ := Lsts.at (kvs := r) h4 e
      exact ⟨vs', xs', a, List.mem_cons_of_mem _ b, c⟩
theorem Lsts.app {kd y : PyData} {l : Addr} {v : V} {vs : List V} (hl : H l = some (.lst vs)) (hv : Is K G v y) : ∀ {ls : List Addr} {kvs : List (PyData × List PyData)}, Lsts K G H ls (lvals kvs) → dget (lkeys kvs) ls kd = some l → ls.Nodup → (∀ xs ∈ lvals kvs, xs.length < sizeLine) →
    Lsts K G (upd H l (.lst (vs ++ [v]))) ls (lvals (lapp kvs kd y))
  | _, [], h, e, _, _ => by cases h; cases e
  | ls, p :: r, h, e, nd, sz => by
    cases h with | @cons l0 ls0 ws xs xss h1 h2 h3 h4 =>
    have e : (if sameKey p.1 kd = true then some l0 else dget (lkeys r) ls0 kd) = some l := e
    rw [List.nodup_cons] at nd
    unfold lapp
    split at e
    · rename_i hs
      cases e
      rw [hl] at h1; cases h1
      rw [if_pos hs]
      refine .cons upd_same ?_ (h3.append (.one hv)) (h4.up (Ex.refl _) fun a ha o ho => ?_)
      · have := sz p.2 (by simp)
        rw [List.length_append]; show _ + 1 ≤ _; omega
      · rw [upd_ne (fun z : a = l => nd.1 (z ▸ ha))]; exact ho
    · rename_i hs
      rw [if_neg hs]
      have ne : l0 ≠ l := fun z => nd.1 (z ▸ dget_mem e)
      exact .cons (by rw [upd_ne ne]; exact h1) h2 h3 (Lsts.app hl hv h4 e nd.2 fun xs hx => sz xs (List.mem_cons_of_mem _ hx))
theorem Lsts.snoc {l : Addr} {vs : List V} {xs : List PyData} (hl : H l = some (.lst vs)) (hz : xs.length ≤ sizeLine) (hv : IsAll K G vs xs) : ∀ {ls : List Addr} {xss : List (List PyData)}, Lsts K G H ls xss → Lsts K G H (ls ++ [l]) (xss ++ [xs])
  | _, _, .nil => .cons hl hz hv .nil
  | _, _, .cons a b c d => .cons a b c (Lsts.snoc hl hz hv d)
theorem DEnv.lappX (E : DEnv K G0 H0 G H σ ρ) {i : Nat} {p l : Addr} {kvs : List (PyData × List PyData)} {kd y : PyData} {v : V} {vs : List V} (hi : ρ[i]? = some (some (.x (.ml kvs)))) (hp : σ[i]? = some (some (.ref p))) {ls : List Addr} {ks : List PyData} (hd : DRel K G' H p ks (ls.map .ref))
    (hg : dget (lkeys kvs) ls kd = some l) (hl : H l = some (.lst vs)) (hv : Is K G v y) (sz : ∀ xs ∈ lvals kvs, xs.length < sizeLine) : DEnv K G0 H0 G (upd H l (.lst (vs ++ [v]))) σ (ρ.set i (some (.x (.ml (lapp kvs kd y))))) := by
  obtain ⟨v, P, a, b, hP, k⟩ := E.chg hi
  rw [hp] at a; cases a
  obtain ⟨⟨p', ls', e, h1, h2, hp', h3, h4, h5, h6⟩, _⟩ := b
  cases e
  have e := hd.uniq h3
  subst e
  rw [List.nodup_cons] at h6
  have lm := dget_mem hg
  refine k _ [] _ (fun a ha => by cases ha) (fun a o ho hn => ?_) (fun a ha => ?_) ⟨⟨p, ls, rfl, h1, h2, .inl hp', ?_, Lsts.app hl hv h4 hg h6.2 sz, fun a ha => ⟨(h5 a ha).1, (h5 a ha).2.1, .inl (h5 a ha).2.2⟩, List.nodup_cons.mpr h6⟩, (fun xs z => nomatch z), (fun xs z => nomatch z), fun xs z => nomatch z⟩
  · rw [upd_ne (fun z : a = l => hn (by rw [z]; exact (h5 l lm).2.2))]; exact ho
  · by_cases z : a = l
    · subst z; rw [upd_same]; exact fun z => nomatch z
    · rw [upd_ne z]; exact (hP a ha).1
  · rw [lapp_keys]
    exact h3.up (Ex.refl _) fun o ho => by rw [upd_ne (fun z : p = l => h6.1 (z ▸ lm))]; exact ho
theorem DEnv.lnewX (E : DEnv K G0 H0 G H σ ρ) {i : Nat} {p l : Addr} {kvs : List (PyData × List PyData)} {kd : PyData} {ob : HO} (hi : ρ[i]? = some (some (.x (.ml kvs)))) (hp : σ[i]? = some (some (.ref p))) {ls : List Addr} {ks : List PyData} (hd : DRel K G' H p ks (ls.map .ref))
    (hl : H l = none) (dr : ∀ H' : Hp, H' p = some ob → DRel K G H' p (lkeys (kvs ++ [(kd, [])])) ((ls ++ [l]).map .ref)) (ho : Mut (some ob)) : DEnv K G0 H0 G (upd (upd H l (.lst [])) p ob) σ (ρ.set i (some (.x (.ml (kvs ++ [(kd, [])]))))) := by
  obtain ⟨v, P, a, b, hP, k⟩ := E.chg hi
  rw [hp] at a; cases a
  obtain ⟨⟨p', ls', e, h1, h2, hp', h3, h4, h5, h6⟩, _⟩ := b
  cases e
  have e := hd.uniq h3
  subst e
  have hpl : p ≠ l := fun z => h3.ne (z ▸ hl)
  have h6' := List.nodup_cons.mp h6
  have nl : l ∉ ls := fun z => h4.ne l z hl
  refine k _ [l] _ (fun a ha => ?_) (fun a o ho hn => ?_) (fun a ha => ?_) ⟨⟨p, ls ++ [l], rfl, h1, h2, .inl hp', dr _ upd_same, ?_, fun a ha => ?_, ?_⟩, (fun xs z => nomatch z), (fun xs z => nomatch z), fun xs z => nomatch z⟩
  · have e : a = l := by simpa using ha
    subst e
    refine ⟨hl, ?_⟩
    rw [upd_ne (Ne.symm hpl), upd_same]; exact fun z => nomatch z
  · rw [upd_ne (fun z : a = p => hn (by rw [z]; exact hp')), upd_ne (ne_of_none ho hl)]; exact ho
  · by_cases z : a = p
    · subst z; rw [upd_same]; exact fun z => nomatch z
    · rw [upd_ne z]
      by_cases z2 : a = l
      · subst z2; rw [upd_same]; exact fun z => nomatch z
      · rw [upd_ne z2]; exact (hP a ha).1
  · rw [show lvals (kvs ++ [(kd, [])]) = lvals kvs ++ [[]] from by simp [lvals]]
    refine Lsts.snoc (vs := []) (by rw [upd_ne (Ne.symm hpl), upd_same]) (Nat.zero_le _) .nil (h4.up (Ex.refl _) fun a ha o ho => ?_)
    rw [upd_ne (fun z : a = p => h6'.1 (z ▸ ha)), upd_ne (ne_of_none ho hl)]; exact ho
  · rcases List.mem_append.mp ha with ha | ha
    · exact ⟨(h5 a ha).1, (h5 a ha).2.1, .inl (h5 a ha).2.2⟩
    · have e : a = l := by simpa using ha
      subst e
      exact ⟨E.up.h.back hl, E.gh.back hl, .inr (by simp)⟩
  · rw [List.nodup_cons]
    refine ⟨fun z => ?_, nodup_snoc h6'.2 nl⟩
    rcases List.mem_append.mp z with z | z
    · exact h6'.1 z
    · exact hpl (by simpa using z)
/-- d.setdefault(k, []).append(v), d a dict of own lists -/
def sSetdApp (i : Nat) (tk tv : TEd) : TSd := fun D ρ => match gx ρ i with
  | some (.x (.ml kvs)) => tk ρ fun wk => match wk with
    | .d kd => keyFit kd (lkeys kvs) ∧ kvs.length < sizeLine ∧ (∀ xs ∈ lvals kvs, xs.length < sizeLine) ∧ tv (ρ.set i (some (.x (.ml (lsetd kvs kd))))) fun w => match w with
      | .d y => D.nx (ρ.set i (some (.x (.ml (lapp (lsetd kvs kd) kd y)))))
      | _ => False
    | _ => False
  | _ => False
theorem set_self {α : Type} {xs : List α} {i : Nat} {x : α} (h : xs[i]? = some x) : xs.set i x = xs := by
  apply List.ext_getElem?
  intro j
  by_cases e : i = j
  · subst e; rw [List.getElem?_set_self (List.getElem?_eq_some_iff.mp h).1, h]
  · rw [List.getElem?_set_ne e]
theorem dget_last {α : Type} {kd : PyData} {l : α} (he : sameKey kd kd = true) : ∀ {ks : List PyData} {vs : List α}, vs.length = ks.length → dhas ks kd = false → dget (ks ++ [kd]) (vs ++ [l]) kd = some l
  | [], [], _, _ => by show (if sameKey kd kd = true then some l else _) = some l; rw [if_pos he]
  | [], _ :: _, h, _ => by simp at h
  | _ :: _, [], h, _ => by simp at h
  | k :: ks, v :: vs, h, hn => by
    have hn : (sameKey k kd || dhas ks kd) = false := hn
    rw [Bool.or_eq_false_iff] at hn
    show (if sameKey k kd = true then some v else dget (ks ++ [kd]) (vs ++ [l]) kd) = some l
    rw [if_neg (by rw [hn.1]; exact Bool.false_ne_true)]
    exact dget_last he (by simpa using h) hn.2
theorem snd_setdApp {i : Nat} {uk uv : TE} {tk tv : TEd} (sk : Snd K Z uk tk) (sv : Snd K Z uv tv) : SndS K Z (tDrop (tBM K "list" rAppend (tSetdR K (tVar i) uk (tLst tNil)) (tCons uv tNil))) (sSetdApp i tk tv) := by
  intro G0 H0 G H σ ρ D' D E gd h n r b c
  unfold sSetdApp at h
  split at h
  · rename_i kvs e1
    have hi := gx_some e1
    obtain ⟨v0, hp, ⟨p, ls0, rfl, _, _, _, hd0, _⟩, _⟩ := E.slot i _ hi
    refine ⟨.ref p, hp, ?_, ?_⟩
    · obtain ⟨o, bs, hr, _⟩ := hd0.rawAt
      exact ⟨_, _, _, _, hr⟩
    refine sk G0 H0 G H σ ρ _ _ E gd h fun y wk G1 H1 u1 r1 q1 => ?_
    split at q1
    · rename_i kd
      obtain ⟨hf, hsz, zs, q1⟩ := q1
      refine ⟨Nat.zero_le _, fun l hl => ?_⟩
      have E1 := E.to u1
      have u2 := Up.newH (o := .lst []) E1.gh hl
      have E2 := E1.to u2
      obtain ⟨v1, hp1, ⟨p1, ls1, e, _, _, _, hd1, hl1, _⟩, _⟩ := E1.slot i _ hi
      rw [hp] at hp1; cases hp1; cases e
      have hd2 : DRel K G1 (upd H1 l (.lst [])) p (lkeys kvs) (ls1.map .ref) := hd1.up (Ex.refl _) fun o ho => by rw [upd_ne (ne_of_none ho hl)]; exact ho
      have hlen : ls1.length = (lkeys kvs).length := by rw [← hd1.lens, List.length_map]
      -- behind the append, from any later heap
      have fin : ∀ (kvs' : List (PyData × List PyData)) (la : Addr) (ws : List V) (ls : List Addr) (ks : List PyData) (Ha : Hp), DEnv K G0 H0 G1 Ha σ (ρ.set i (some (.x (.ml kvs')))) → DRel K G1 Ha p ks (ls.map .ref) → dget (lkeys kvs') ls kd = some la → Ha la = some (.lst ws) → ws.length < sizeLine →
          (∀ xs ∈ lvals kvs', xs.length < sizeLine) → tv (ρ.set i (some (.x (.ml kvs')))) (fun w => match w with
            | .d y => D'.nx (ρ.set i (some (.x (.ml (lapp kvs' kd y)))))
            | _ => False) →
          tyV K "list" (.ref la) Ha ∧ tCons uv tNil σ Ha fun xs H2 => rAppend (.ref la) xs H2 fun _ H1 => D.nx σ H1 := by
        intro kvs' la ws ls ks Ha Ea da ga ha zw zs qa
        refine ⟨.inl ⟨rfl, ws, SqL.of ha⟩, ?_⟩
        refine sv G0 H0 G1 Ha σ _ _ _ Ea gd qa fun v w G2 H2 u3 r3 q3 => ?_
        split at q3
        · rename_i y2
          have hir : i < ρ.length := (List.getElem?_eq_some_iff.mp hi).1
          have E3 := (Ea.to u3).lappX (List.getElem?_set_self hir) hp (da.up (Ex.refl _) (u3.h p)) ga (u3.h _ _ ha) r3 zs
          rw [List.set_set] at E3
          exact ⟨la, ws, v, rfl, rfl, u3.h _ _ ha, zw, n _ _ _ _ E3 q3⟩
        · exact q3.elim
      refine ⟨p, G1, lkeys kvs, _, kd, rfl, E2.gh, hd2, r1, hf, by rw [List.length_map]; exact hsz, fun v hv => ?_, fun hn ob dp mu => ?_⟩
      · -- it is there
        have hk : dhas (lkeys kvs) kd = true := by rw [← dget_has (vs := ls1) hlen]; rw [dget_map] at hv; cases e : dget (lkeys kvs) ls1 kd with
          | none => rw [e] at hv; cases hv
          | some _ => rfl
        rw [dget_map] at hv
        cases e : dget (lkeys kvs) ls1 kd with
        | none => rw [e] at hv; cases hv
        | some la =>
          rw [e] at hv; cases hv
          obtain ⟨ws, xs, a1, a2, a3, a4⟩ := hl1.at e
          rw [show lsetd kvs kd = kvs from if_pos hk] at q1
          refine fin kvs la ws ls1 (lkeys kvs) _ ?_ hd2 e (by rw [upd_ne (ne_of_none a1 hl)]; exact a1) (by rw [a4]; exact zs _ a2) zs q1
          rw [set_self hi]; exact E2
      · have E3 := E1.lnewX (kd := kd) (ob := ob) hi hp hd1 hl (fun H' eH => ?_) mu
        · rw [show lsetd kvs kd = kvs ++ [(kd, [])] from if_neg (by rw [hn]; exact Bool.false_ne_true)] at q1
          have hd3 : DRel K G1 (upd (upd H1 l (.lst [])) p ob) p (dputK (lkeys kvs) kd) (dputV (lkeys kvs) (ls1.map .ref) kd (.ref l)) := dp _ upd_same
          have ev : dputV (lkeys kvs) (ls1.map .ref) kd (.ref l) = (ls1 ++ [l]).map V.ref := by
            unfold dputV; rw [if_neg (by rw [hn]; exact Bool.false_ne_true)]; simp
          rw [ev] at hd3
          have hkk : lkeys (kvs ++ [(kd, [])]) = lkeys kvs ++ [kd] := by simp [lkeys]
          refine fin (kvs ++ [(kd, [])]) l [] (ls1 ++ [l]) _ _ E3 hd3 ?_ ?_ (by show 0 < sizeLine; rw [sizeLine_eq]; decide) ?_ q1
          · rw [hkk]
            exact dget_last (by unfold sameKey; exact decide_eq_true rfl) hlen hn
          · rw [upd_ne (fun z : l = p => hd1.ne (z ▸ hl)), upd_same]
          · intro xs hx
            rw [show lvals (kvs ++ [(kd, [])]) = lvals kvs ++ [[]] from by simp [lvals]] at hx
            rcases List.mem_append.mp hx with hx | hx
            · exact zs xs hx
            · have e : xs = [] := by simpa using hx
              subst e; show 0 < sizeLine; rw [sizeLine_eq]; decide
        · have := dp H' eH
          unfold dputK dputV at this
          rw [if_neg (by rw [hn]; exact Bool.false_ne_true), if_neg (by rw [hn]; exact Bool.false_ne_true)] at this
          rw [show lkeys (kvs ++ [(kd, [])]) = lkeys kvs ++ [kd] from by simp [lkeys], List.map_append]
          exact this
    · exact q1.elim
  · exact h.elim
theorem ds_setdApp (j : Nat) {x : Str} {k e : Expr} {tk tv : TEd} {pn ap1 ap2 cp1 cp2 pl : Pos} (hu : X.A.units + 65 < cLine) (hk : PD X Z k tk) (hv : PD X Z e tv) (hN : X.N[j]? = some x := by rfl) (hvi : Vis X.env.scope x := by first | exact Or.inl rfl | exact Or.inr (Or.inl rfl) | exact Or.inr (Or.inr rfl)) (hd : (x == ("__debug__" : Str)) = false := by decide) (hcd : (x == ("__classdict__" : Str)) = false := by decide)
    (m : M2 X (.Name x pn) "setdefault" ap1 k (.List [] pl) cp1 := by exact ⟨rfl, rfl, rfl, rfl⟩)
    (hbase : attributeBase (.Call (.Attribute (.Name x pn) "setdefault" ap1) [k, .List [] pl] [] cp1) "append" X.env (eval (.Call (.Attribute (.Name x pn) "setdefault" ap1) [k, .List [] pl] [] cp1) X.env) = eval (.Call (.Attribute (.Name x pn) "setdefault" ap1) [k, .List [] pl] [] cp1) X.env := by rfl)
    (hfew : ((backTo cp2 (starEach [e] X.env)).all (fun x => !x.1) && (backToKw cp2 (keywordEach [] X.env)).all (fun x => x.1.isSome) && decide ([e].length + ([] : List Keyword).length + (if ([] : List Keyword).isEmpty then 0 else 1) < 30)) = true := by rfl)
    (hline : (ap2.endLine == cp2.line) = true := by rfl) (hst : starEach [e] X.env = (false, eval e X.env) :: starEach [] X.env := by rfl) (hplain : (backTo cp2 (starEach [] X.env)).any (·.1) = false := by rfl)
    (hs : swapsWith (.Call (.Attribute (.Call (.Attribute (.Name x pn) "setdefault" ap1) [k, .List [] pl] [] cp1) "append" ap2) [e] [] cp2) none pos.line X.env = pure false := by rfl) :
    PDS X Z (.Expr (.Call (.Attribute (.Call (.Attribute (.Name x pn) "setdefault" ap1) [k, .List [] pl] [] cp1) "append" ap2) [e] [] cp2) pos) (sSetdApp j tk tv) := by
  obtain ⟨t1, p1, s1⟩ := hk
  obtain ⟨t2, p2, s2⟩ := hv
  exact ⟨_, ps_expr (pe_bm PySem.F.plainAttrs_list PySem.F.slot_list_append PySem.F.type_list_append mt_append (pe_setdR hu (pe_var hN hvi hd hcd) p1 (pe_lst pa_nil) m) (pa_cons p2 pa_nil hst) hbase hfew hline hst hplain) hs, snd_setdApp s1 s2⟩
end
end DL

/-! DL21: dicts by type. -/
namespace DL
open PySem PySem.Spec PyProof.Rows L2
mutual
theorem nk_inj : ∀ {x y : PyData} {n : NestedKey}, nkOf x = some n → nkOf y = some n → x = y
  | x, y, n, h, h' => by
    cases x with
    | none => cases y <;> simp only [nkOf, Option.some.injEq, reduceCtorEq] at h h' <;> first | rfl | (subst h; simp [nkOf] at h')
    | int i => cases y <;> simp only [nkOf, Option.some.injEq, reduceCtorEq] at h h' <;> (subst h; first | (injection h' with h'; rw [h']) | (simp [nkOf] at h'))
    | str i => cases y <;> simp only [nkOf, Option.some.injEq, reduceCtorEq] at h h' <;> (subst h; first | (injection h' with h'; rw [h']) | (simp [nkOf] at h'))
    | tuple xs =>
      cases y with
      | tuple ys =>
        simp only [nkOf, Option.map_eq_some_iff] at h h'
        obtain ⟨as, h1, rfl⟩ := h
        obtain ⟨bs, h2, h3⟩ := h'
        injection h3 with h3
        subst h3
        rw [nkAll_inj h1 h2]
      | none => simp only [nkOf, Option.some.injEq] at h'; subst h'; simp [nkOf] at h
      | int i => simp only [nkOf, Option.some.injEq] at h'; subst h'; simp [nkOf] at h
      | str i => simp only [nkOf, Option.some.injEq] at h'; subst h'; simp [nkOf] at h
      | bool _ => simp [nkOf] at h'
      | list _ => simp [nkOf] at h'
      | dict _ => simp [nkOf] at h'
    | bool _ => simp [nkOf] at h
    | list _ => simp [nkOf] at h
    | dict _ => simp [nkOf] at h
theorem nkAll_inj : ∀ {xs ys : List PyData} {ns : List NestedKey}, nkAll xs = some ns → nkAll ys = some ns → xs = ys
  | [], [], _, _, _ => rfl
  | [], y :: ys, ns, h, h' => by
    simp only [nkAll, Option.some.injEq] at h
    subst h
    rw [nkAll] at h'
    split at h' <;> simp at h'
  | x :: xs, [], ns, h, h' => by
    simp only [nkAll, Option.some.injEq] at h'
    subst h'
    rw [nkAll] at h
    split at h <;> simp at h
  | x :: xs, y :: ys, ns, h, h' => by
    rw [nkAll] at h h'
    split at h
    · rename_i a as e1 e2
      split at h'
      · rename_i b bs e3 e4
        injection h with h
        injection h' with h'
        rw [← h] at h'
        injection h' with h1 h2
        subst h1 h2
        rw [nk_inj e1 e3, nkAll_inj e2 e4]
      · cases h'
    · cases h
end
mutual
theorem nk_depth : ∀ {x : PyData} {n : NestedKey}, nkOf x = some n → n.depth ≤ x.depth
  | .none, n, h => by simp only [nkOf, Option.some.injEq] at h; subst h; exact Nat.zero_le _
  | .int _, n, h => by simp only [nkOf, Option.some.injEq] at h; subst h; exact Nat.zero_le _
  | .str _, n, h => by simp only [nkOf, Option.some.injEq] at h; subst h; exact Nat.zero_le _
  | .tuple xs, n, h => by
    simp only [nkOf, Option.map_eq_some_iff] at h
    obtain ⟨as, h1, rfl⟩ := h
    have := nkAll_depth h1
    simp only [NestedKey.depth, PyData.depth]
    omega
  | .bool _, n, h => by simp [nkOf] at h
  | .list _, n, h => by simp [nkOf] at h
  | .dict _, n, h => by simp [nkOf] at h
theorem nkAll_depth : ∀ {xs : List PyData} {ns : List NestedKey}, nkAll xs = some ns → NestedKey.depthAll ns ≤ PyData.depthAll xs
  | [], ns, h => by simp only [nkAll, Option.some.injEq] at h; subst h; exact Nat.zero_le _
  | x :: xs, ns, h => by
    rw [nkAll] at h
    split at h
    · rename_i a as e1 e2
      injection h with h
      subst h
      have h1 := nk_depth e1
      have h2 := nkAll_depth e2
      simp only [NestedKey.depthAll, PyData.depthAll]
      omega
    · cases h
end
/-- what may be (in) a key of a dict -/
class EncN (α : Type) [DecidableEq α] [Enc α] : Prop where
  nk : ∀ a : α, ∃ n, nkOf (Enc.d a) = some n
/-- the keys of a dict: all tuples, or all ints and texts -/
class EncK (α : Type) [DecidableEq α] [Enc α] : Prop extends EncN α where
  one : (∀ a : α, isT (Enc.d a) = true) ∨ ∀ a : α, isSc (Enc.d a) = true
section
variable {α β γ : Type} [DecidableEq α] [Enc α] [DecidableEq β] [Enc β] [DecidableEq γ] [Enc γ]
instance : EncN Str := ⟨fun _ => ⟨_, rfl⟩⟩
instance : EncN Int := ⟨fun _ => ⟨_, rfl⟩⟩
instance : EncN Val := ⟨fun v => by cases v <;> exact ⟨_, rfl⟩⟩
theorem nkAll_map [EncN α] : ∀ xs : List α, ∃ ns, nkAll (xs.map Enc.d) = some ns
  | [] => ⟨_, rfl⟩
  | x :: xs => by
    obtain ⟨n, h1⟩ := EncN.nk x
    obtain ⟨ns, h2⟩ := nkAll_map xs
    exact ⟨n :: ns, by rw [List.map_cons, nkAll, h1, h2]⟩
theorem nk_tuple {xs : List PyData} {ns : List NestedKey} (h : nkAll xs = some ns) : nkOf (.tuple xs) = some (.tup ns) := by rw [nkOf, h]; rfl
instance [EncN α] : EncN (List α) := ⟨fun xs => let ⟨_, h⟩ := nkAll_map xs; ⟨_, nk_tuple h⟩⟩
instance [EncN α] [EncN β] : EncN (α × β) := ⟨fun p => by
  obtain ⟨n, h1⟩ := EncN.nk p.1
  obtain ⟨m, h2⟩ := EncN.nk p.2
  exact ⟨_, nk_tuple (ns := [n, m]) (by simp only [nkAll, h1, h2])⟩⟩
instance [EncN α] [EncN β] [EncN γ] : EncN (Tr α β γ) := ⟨fun p => by
  obtain ⟨n, h1⟩ := EncN.nk p.a
  obtain ⟨m, h2⟩ := EncN.nk p.b
  obtain ⟨l, h3⟩ := EncN.nk p.c
  exact ⟨_, nk_tuple (ns := [n, m, l]) (by simp only [nkAll, h1, h2, h3])⟩⟩
instance : EncN Tb := ⟨fun _ => ⟨_, rfl⟩⟩
instance : EncN Term := ⟨fun t => by cases t with | var x => exact ⟨_, rfl⟩ | val v => cases v <;> exact ⟨_, rfl⟩⟩
instance : EncK Str := { one := .inr fun _ => rfl }
instance : EncK Int := { one := .inr fun _ => rfl }
instance : EncK Val := { one := .inr fun v => by cases v <;> rfl }
instance [EncN α] : EncK (List α) := { one := .inl fun _ => rfl }
instance [EncN α] [EncN β] : EncK (α × β) := { one := .inl fun _ => rfl }
instance [EncN α] [EncN β] [EncN γ] : EncK (Tr α β γ) := { one := .inl fun _ => rfl }
instance : EncK Term := { one := .inl fun t => by cases t <;> rfl }
theorem sameKey_enc [EncN α] (a b : α) : sameKey (Enc.d a) (Enc.d b) = decide (a = b) := by
  obtain ⟨n, h1⟩ := EncN.nk a
  obtain ⟨m, h2⟩ := EncN.nk b
  unfold sameKey
  rw [Bool.eq_iff_iff, decide_eq_true_eq, decide_eq_true_eq]
  refine ⟨fun e => Enc.inj (nk_inj h1 (e ▸ h1)), fun e => by rw [e]⟩
theorem keyFit_enc [EncK α] {kd : PyData} {k : α} {ks : List PyData} (e : kd = Enc.d k) (hk : ∃ xs : List α, ks = xs.map Enc.d) (hl : Enc.lvl α ≤ 8 := by decide) : keyFit kd ks := by
  subst e
  obtain ⟨xs, rfl⟩ := hk
  obtain ⟨n, h1⟩ := EncN.nk k
  refine ⟨⟨n, h1, Nat.le_trans (nk_depth h1) (Nat.le_trans (Enc.dep k) hl)⟩, ?_⟩
  rcases EncK.one (α := α) with h | h
  · exact .inl ⟨h k, fun y hy => by obtain ⟨a, _, rfl⟩ := List.mem_map.mp hy; exact h a⟩
  · exact .inr ⟨h k, fun y hy => by obtain ⟨a, _, rfl⟩ := List.mem_map.mp hy; exact h a⟩
theorem dhas_enc [EncN α] (k : α) : ∀ xs : List α, dhas (xs.map Enc.d) (Enc.d k) = decide (k ∈ xs)
  | [] => by simp [dhas]
  | x :: xs => by
    show (sameKey (Enc.d x) (Enc.d k) || dhas (xs.map Enc.d) (Enc.d k)) = _
    rw [dhas_enc k xs, sameKey_enc, Bool.eq_iff_iff]
    simp only [Bool.or_eq_true, decide_eq_true_eq, List.mem_cons]
    exact or_congr eq_comm Iff.rfl
/-- a dict, by type -/
def td (kvs : List (α × β)) : List (PyData × PyData) := kvs.map fun p => (Enc.d p.1, Enc.d p.2)
/-- a dict of lists, by type -/
def tl (kvs : List (α × List β)) : List (PyData × List PyData) := kvs.map fun p => (Enc.d p.1, p.2.map Enc.d)
theorem td_keys (kvs : List (α × β)) : dkeys (td kvs) = (kvs.map (·.1)).map Enc.d := by unfold dkeys td; rw [List.map_map, List.map_map]; rfl
theorem td_vals (kvs : List (α × β)) : dvals (td kvs) = (kvs.map (·.2)).map Enc.d := by unfold dvals td; rw [List.map_map, List.map_map]; rfl
theorem td_len (kvs : List (α × β)) : (td kvs).length = kvs.length := List.length_map ..
theorem tl_keys (kvs : List (α × List β)) : lkeys (tl kvs) = (kvs.map (·.1)).map Enc.d := by unfold lkeys tl; rw [List.map_map, List.map_map]; rfl
theorem tl_len (kvs : List (α × List β)) : (tl kvs).length = kvs.length := List.length_map ..
theorem fit_td [EncK α] {kd : PyData} {k : α} {kvs : List (α × β)} (e : kd = Enc.d k) (hl : Enc.lvl α ≤ 8 := by decide) : keyFit kd (dkeys (td kvs)) := keyFit_enc e ⟨_, td_keys kvs⟩ hl
theorem fit_tl [EncK α] {kd : PyData} {k : α} {kvs : List (α × List β)} (e : kd = Enc.d k) (hl : Enc.lvl α ≤ 8 := by decide) : keyFit kd (lkeys (tl kvs)) := keyFit_enc e ⟨_, tl_keys kvs⟩ hl
/-- d[k] = v -/
def putT (kvs : List (α × β)) (k : α) (v : β) : List (α × β) := if k ∈ kvs.map (·.1) then kvs.map fun p => if p.1 = k then (p.1, v) else p else kvs ++ [(k, v)]
theorem dput_td [EncN α] {kvs : List (α × β)} {k : α} {v : β} {kd y : PyData} (e1 : kd = Enc.d k) (e2 : y = Enc.d v) : dput (td kvs) kd y = td (putT kvs k v) := by
  subst e1 e2
  unfold dput putT
  rw [td_keys, dhas_enc]
  by_cases h : k ∈ kvs.map (·.1)
  · rw [if_pos (decide_eq_true h), if_pos h]
    unfold td
    rw [List.map_map, List.map_map]
    apply List.map_congr_left
    intro p _
    simp only [Function.comp_apply, sameKey_enc]
    by_cases e : p.1 = k
    · rw [if_pos (decide_eq_true e), if_pos e]
    · rw [if_neg (by simpa using e), if_neg e]
  · rw [if_neg (by simpa using h), if_neg h]
    unfold td
    rw [List.map_append]; rfl
theorem putT_keys (kvs : List (α × β)) (k : α) (v : β) : (putT kvs k v).map (·.1) = if k ∈ kvs.map (·.1) then kvs.map (·.1) else kvs.map (·.1) ++ [k] := by
  unfold putT
  split
  · rw [List.map_map]
    apply List.map_congr_left
    intro p _
    simp only [Function.comp_apply]
    split <;> rfl
  · rw [List.map_append]; rfl
/-- the list of a key made longer -/
def grp : List (α × List β) → α → β → List (α × List β)
  | [], k, v => [(k, [v])]
  | p :: r, k, v => if p.1 = k then (p.1, p.2 ++ [v]) :: r else p :: grp r k v
theorem lapp_tl [EncN α] {k : α} {v : β} {kd y : PyData} (e1 : kd = Enc.d k) (e2 : y = Enc.d v) : ∀ {kvs : List (α × List β)}, lapp (lsetd (tl kvs) kd) kd y = tl (grp kvs k v) := by
  subst e1 e2
  have app : ∀ kvs : List (α × List β), k ∈ kvs.map (·.1) → lapp (tl kvs) (Enc.d k) (Enc.d v) = tl (grp kvs k v) := by
    intro kvs
    induction kvs with
    | nil => intro h; simp at h
    | cons p r ih =>
      intro h
      show (if sameKey (Enc.d p.1) (Enc.d k) = true then (Enc.d p.1, p.2.map Enc.d ++ [Enc.d v]) :: tl r else (Enc.d p.1, p.2.map Enc.d) :: lapp (tl r) (Enc.d k) (Enc.d v)) = tl (if p.1 = k then (p.1, p.2 ++ [v]) :: r else p :: grp r k v)
      rw [sameKey_enc]
      by_cases e : p.1 = k
      · rw [if_pos (decide_eq_true e), if_pos e]
        show _ = (Enc.d p.1, (p.2 ++ [v]).map Enc.d) :: tl r
        rw [List.map_append]; rfl
      · rw [if_neg (by simpa using e), if_neg e, ih (by simpa [Ne.symm e] using h)]
        rfl
  have new : ∀ kvs : List (α × List β), k ∉ kvs.map (·.1) → lapp (tl kvs ++ [(Enc.d k, [])]) (Enc.d k) (Enc.d v) = tl (grp kvs k v) := by
    intro kvs
    induction kvs with
    | nil =>
      intro _
      show (if sameKey (Enc.d k) (Enc.d k) = true then _ else _) = _
      rw [sameKey_enc, if_pos (decide_eq_true rfl)]
      rfl
    | cons p r ih =>
      intro h
      show (if sameKey (Enc.d p.1) (Enc.d k) = true then _ else (Enc.d p.1, p.2.map Enc.d) :: lapp (tl r ++ [(Enc.d k, [])]) (Enc.d k) (Enc.d v)) = tl (if p.1 = k then (p.1, p.2 ++ [v]) :: r else p :: grp r k v)
      have e : p.1 ≠ k := fun e => h (by simp [e])
      rw [sameKey_enc, if_neg (by simpa using e), if_neg e, ih (fun z => h (List.mem_cons_of_mem _ z))]
      rfl
  intro kvs
  unfold lsetd
  rw [tl_keys, dhas_enc]
  by_cases h : k ∈ kvs.map (·.1)
  · rw [if_pos (decide_eq_true h)]; exact app kvs h
  · rw [if_neg (by simpa using h)]; exact new kvs h
theorem grp_len (kvs : List (α × List β)) (k : α) (v : β) : (grp kvs k v).length ≤ kvs.length + 1 := by
  induction kvs with
  | nil => exact Nat.le_refl _
  | cons p r ih =>
    unfold grp
    split
    · simp
    · simp only [List.length_cons]; omega
theorem grp_size {n : Nat} {kvs : List (α × List β)} {k : α} {v : β} (h : ∀ p ∈ kvs, p.2.length ≤ n) : ∀ p ∈ grp kvs k v, p.2.length ≤ n + 1 := by
  induction kvs with
  | nil => intro p hp; simp [grp] at hp; subst hp; simp
  | cons q r ih =>
    intro p hp
    unfold grp at hp
    split at hp
    · rcases List.mem_cons.mp hp with e | e
      · subst e
        have := h q (by simp)
        simp only [List.length_append, List.length_singleton]; omega
      · exact Nat.le_succ_of_le (h p (List.mem_cons_of_mem _ e))
    · rcases List.mem_cons.mp hp with e | e
      · subst e; exact Nat.le_succ_of_le (h p (by simp))
      · exact ih (fun p hp => h p (List.mem_cons_of_mem _ hp)) p e
theorem putT_len (kvs : List (α × β)) (k : α) (v : β) : (putT kvs k v).length ≤ kvs.length + 1 := by
  unfold putT
  split
  · rw [List.length_map]; omega
  · simp
theorem tl_small {kvs : List (α × List β)} (h : ∀ p ∈ kvs, p.2.length < sizeLine) : ∀ xs ∈ lvals (tl kvs), xs.length < sizeLine := by
  intro xs hx
  unfold lvals tl at hx
  rw [List.map_map] at hx
  obtain ⟨p, hp, rfl⟩ := List.mem_map.mp hx
  simp only [Function.comp_apply, List.length_map]
  exact h p hp
end
end DL

/-! DL22: blocks of a store, plain. -/
namespace DL
open PySem PySem.Spec PyProof.Rows L2
/-- the facts by name and key -/
def groupsF (ts : List Tb) (fs : List Fact) : List ((Str × VRow) × List VRow) := fs.foldl (fun kvs f => grp kvs (f.1, keyF ts f) f.2) []
def blkG (p : (Str × VRow) × List VRow) : Block := ⟨p.1.1, p.1.2, p.2⟩
def blocksG (ts : List Tb) (fs : List Fact) : List Block := (groupsF ts fs).map blkG
theorem groupsF_size (ts : List Tb) (fs : List Fact) : (groupsF ts fs).length ≤ fs.length ∧ ∀ p ∈ groupsF ts fs, p.2.length ≤ fs.length := by
  unfold groupsF
  have : ∀ (fs : List Fact) (kvs : List ((Str × VRow) × List VRow)) (n : Nat), kvs.length ≤ n → (∀ p ∈ kvs, p.2.length ≤ n) → (fs.foldl (fun kvs f => grp kvs (f.1, keyF ts f) f.2) kvs).length ≤ n + fs.length ∧ ∀ p ∈ fs.foldl (fun kvs f => grp kvs (f.1, keyF ts f) f.2) kvs, p.2.length ≤ n + fs.length := by
    intro fs
    induction fs with
    | nil => intro kvs n h1 h2; exact ⟨h1, h2⟩
    | cons f fs ih =>
      intro kvs n h1 h2
      have := ih (grp kvs (f.1, keyF ts f) f.2) (n + 1) (Nat.le_trans (grp_len ..) (by omega)) (grp_size h2)
      rw [List.length_cons, show n + (fs.length + 1) = n + 1 + fs.length from by omega]
      exact this
  have := this fs [] 0 (Nat.le_refl _) (fun p hp => by cases hp)
  rw [Nat.zero_add] at this
  exact this
theorem tl_frz {α β : Type} [DecidableEq α] [Enc α] [DecidableEq β] [Enc β] (kvs : List (α × List β)) : (tl kvs).map (fun p => (p.1, PyData.list p.2)) = kvs.map fun p => (Enc.d p.1, .list (p.2.map Enc.d)) := by unfold tl; rw [List.map_map]; rfl
/-- the law's blocks: the last one made longer, or a new one -/
def runStep (ts : List Tb) (acc : List Block) (f : Fact) : List Block := match acc.getLast? with
  | some b => if b.a = f.1 ∧ b.b = keyF ts f then acc.dropLast ++ [⟨f.1, keyF ts f, b.c ++ [f.2]⟩] else acc ++ [⟨f.1, keyF ts f, [f.2]⟩]
  | none => acc ++ [⟨f.1, keyF ts f, [f.2]⟩]
def runsF (ts : List Tb) (fs : List Fact) : List Block := fs.foldl (runStep ts) []
theorem runStep_nil (ts : List Tb) (f : Fact) : runStep ts [] f = [⟨f.1, keyF ts f, [f.2]⟩] := rfl
theorem runStep_yes {ts : List Tb} {acc : List Block} {b : Block} {f : Fact} (h : b.a = f.1 ∧ b.b = keyF ts f) : runStep ts (acc ++ [b]) f = acc ++ [⟨f.1, keyF ts f, b.c ++ [f.2]⟩] := by
  unfold runStep
  rw [List.getLast?_concat]
  show (if _ then _ else _) = _
  rw [if_pos h, List.dropLast_concat]
theorem runStep_no {ts : List Tb} {acc : List Block} {b : Block} {f : Fact} (h : ¬ (b.a = f.1 ∧ b.b = keyF ts f)) : runStep ts (acc ++ [b]) f = acc ++ [b] ++ [⟨f.1, keyF ts f, [f.2]⟩] := by
  unfold runStep
  rw [List.getLast?_concat]
  show (if _ then _ else _) = _
  rw [if_neg h]
theorem runsF_size (ts : List Tb) (fs : List Fact) : (runsF ts fs).length ≤ fs.length ∧ ∀ b ∈ runsF ts fs, b.c.length ≤ fs.length := by
  unfold runsF
  have : ∀ (fs : List Fact) (acc : List Block) (n : Nat), acc.length ≤ n → (∀ b ∈ acc, b.c.length ≤ n) → (fs.foldl (runStep ts) acc).length ≤ n + fs.length ∧ ∀ b ∈ fs.foldl (runStep ts) acc, b.c.length ≤ n + fs.length := by
    intro fs
    induction fs with
    | nil => intro acc n h1 h2; exact ⟨h1, h2⟩
    | cons f fs ih =>
      intro acc n h1 h2
      rw [List.length_cons, show n + (fs.length + 1) = n + 1 + fs.length from by omega]
      refine ih (runStep ts acc f) (n + 1) ?_ ?_
      · rcases List.eq_nil_or_concat acc with e | ⟨acc', b, e⟩
        · subst e; rw [runStep_nil]; simp
        · rw [List.concat_eq_append] at e; subst e
          by_cases h : b.a = f.1 ∧ b.b = keyF ts f
          · rw [runStep_yes h]; simp at h1 ⊢; omega
          · rw [runStep_no h]; simp at h1 ⊢; omega
      · rcases List.eq_nil_or_concat acc with e | ⟨acc', b, e⟩
        · subst e; rw [runStep_nil]; simp
        · rw [List.concat_eq_append] at e; subst e
          intro x hx
          by_cases h : b.a = f.1 ∧ b.b = keyF ts f
          · rw [runStep_yes h] at hx
            rcases List.mem_append.mp hx with hx | hx
            · exact Nat.le_succ_of_le (h2 x (List.mem_append_left _ hx))
            · have := h2 b (by simp)
              rw [List.mem_singleton.mp hx]; simp; omega
          · rw [runStep_no h] at hx
            rcases List.mem_append.mp hx with hx | hx
            · exact Nat.le_succ_of_le (h2 x hx)
            · rw [List.mem_singleton.mp hx]; simp
  have := this fs [] 0 (Nat.le_refl _) (fun p hp => by cases hp)
  rw [Nat.zero_add] at this
  exact this
theorem ixN_last (n : Nat) : ixN (n + 1) (-1) = some n := by
  unfold ixN
  rw [if_neg (by omega), if_pos (by omega)]
  congr 1
  omega
theorem atI_last {α β : Type} {f : α → β} {xs : List α} {b : α} : atI ((xs ++ [b]).map f) (-1) = some (f b) := by
  unfold atI
  rw [List.length_map, List.length_append, List.length_singleton, ixN_last]
  simp
theorem set_blk {a0 : List Block} {b : Block} {n : Str} {k : VRow} {r : VRow} : (List.map (Enc.d (α := Block)) (a0 ++ [b])).set a0.length (.tuple [Enc.d n, Enc.d k, .tuple (b.c.map Enc.d ++ [Enc.d r])]) = (a0 ++ [(⟨n, k, b.c ++ [r]⟩ : Block)]).map Enc.d := by
  have h : ((a0.map (Enc.d (α := Block))) ++ [Enc.d b]).set (a0.map (Enc.d (α := Block))).length (.tuple [Enc.d n, Enc.d k, .tuple (b.c.map Enc.d ++ [Enc.d r])]) = a0.map Enc.d ++ [.tuple [Enc.d n, Enc.d k, .tuple (b.c.map Enc.d ++ [Enc.d r])]] := by simp
  rw [List.length_map] at h
  rw [List.map_append, List.map_append]
  refine h.trans ?_
  show _ = _ ++ [PyData.tuple [Enc.d n, Enc.d k, .tuple ((b.c ++ [r]).map Enc.d)]]
  rw [List.map_append]; rfl
theorem snoc_blk {acc : List Block} {n : Str} {k : VRow} {r : VRow} : List.map (Enc.d (α := Block)) acc ++ [.tuple [Enc.d n, Enc.d k, .tuple [Enc.d r]]] = (acc ++ [(⟨n, k, [r]⟩ : Block)]).map Enc.d := by
  rw [List.map_append]; rfl
theorem set_last {α : Type} {xs : List α} {a b : α} : (xs ++ [a]).set xs.length b = xs ++ [b] := by simp
section
variable {α β : Type} [DecidableEq α] [DecidableEq β]
theorem grp_new {kvs : List (α × List β)} {k : α} {v : β} (h : k ∉ kvs.map (·.1)) : grp kvs k v = kvs ++ [(k, [v])] := by
  induction kvs with
  | nil => rfl
  | cons p r ih =>
    unfold grp
    rw [if_neg (fun e => h (by simp [e])), ih (fun z => h (List.mem_cons_of_mem _ z))]
    rfl
theorem grp_last {kvs : List (α × List β)} {k : α} {v : β} {rows : List β} (h : k ∉ kvs.map (·.1)) : grp (kvs ++ [(k, rows)]) k v = kvs ++ [(k, rows ++ [v])] := by
  induction kvs with
  | nil => show (if k = k then _ else _) = _; rw [if_pos rfl]; rfl
  | cons p r ih =>
    show (if p.1 = k then _ else p :: grp (r ++ [(k, rows)]) k v) = _
    rw [if_neg (fun e => h (by simp [e])), ih (fun z => h (List.mem_cons_of_mem _ z))]
    rfl
end
theorem ltL_take {α : Type} [DecidableEq α] [SO α] : ∀ (k : Nat) {a b : List α}, ltL a b = true → ltL (a.take k) (b.take k) = true ∨ a.take k = b.take k
  | 0, a, b, _ => .inr (by simp)
  | k + 1, [], [], h => .inr rfl
  | k + 1, [], b :: bs, _ => .inl rfl
  | k + 1, a :: as, [], h => by simp [ltL] at h
  | k + 1, a :: as, b :: bs, h => by
    rw [List.take_succ_cons, List.take_succ_cons]
    rw [ltL] at h ⊢
    by_cases e : a = b
    · subst e
      rw [if_pos rfl] at h ⊢
      rcases ltL_take k h with z | z
      · exact .inl z
      · exact .inr (by rw [z])
    · rw [if_neg e] at h ⊢
      exact .inl h
/-- a fact's place: its name and its key -/
def placeF (ts : List Tb) (f : Fact) : Str × VRow := (f.1, keyF ts f)
theorem place_mono {ts : List Tb} {f g : Fact} (hf : hasT ts f) (h : SO.lt f g = true) : SO.lt (placeF ts f) (placeF ts g) = true ∨ placeF ts f = placeF ts g := by
  have h : ltP f g = true := h
  show ltP (placeF ts f) (placeF ts g) = true ∨ _
  unfold ltP at h ⊢
  by_cases e : f.1 = g.1
  · rw [if_pos e] at h
    rw [if_pos (show (placeF ts f).1 = (placeF ts g).1 from e)]
    obtain ⟨t, ht⟩ := hf
    have k1 : keyF ts f = f.2.take t.k := by unfold keyF; rw [ht]
    have k2 : keyF ts g = g.2.take t.k := by unfold keyF; rw [← e, ht]
    show ltL (keyF ts f) (keyF ts g) = true ∨ _
    unfold placeF
    rw [k1, k2, e]
    rcases ltL_take t.k h with z | z
    · exact .inl z
    · exact .inr (by rw [z])
  · rw [if_neg e] at h
    rw [if_neg (show ¬ (placeF ts f).1 = (placeF ts g).1 from e)]
    exact .inl h
theorem place_between {ts : List Tb} {g l f : Fact} (hg : hasT ts g) (hl : hasT ts l) (h1 : g = l ∨ SO.lt g l = true) (h2 : SO.lt l f = true) (e : placeF ts g = placeF ts f) : placeF ts l = placeF ts f := by
  rcases h1 with h1 | h1
  · rw [← h1]; exact e
  · rcases place_mono hg h1 with a | a
    · rcases place_mono hl h2 with b | b
      · have := SO.tr _ _ _ a b
        rw [e, SO.irr] at this; cases this
      · exact b
    · rw [← a]; exact e
theorem blocks_both {ts : List Tb} : ∀ {n : Nat} {fs : List Fact}, fs.length = n → Asc fs → (∀ f ∈ fs, hasT ts f) → runsF ts fs = blocksG ts fs ∧ (∀ k ∈ (groupsF ts fs).map (·.1), ∃ g ∈ fs, placeF ts g = k) ∧ ((groupsF ts fs).map (·.1)).Nodup ∧
    ∀ pre l, fs = pre ++ [l] → ∃ kvs rows, groupsF ts fs = kvs ++ [(placeF ts l, rows)]
  | 0, fs, hn, _, _ => by
    rw [List.length_eq_zero_iff] at hn
    subst hn
    exact ⟨rfl, (fun k hk => by cases hk), List.nodup_nil, fun pre l e => by simp at e⟩
  | n + 1, fs, hn, ha, ht => by
    rcases List.eq_nil_or_concat fs with e | ⟨pre, f, e⟩
    · subst e; simp at hn
    rw [List.concat_eq_append] at e
    subst e
    rw [List.length_append, List.length_singleton] at hn
    have ap := List.pairwise_append.mp (show List.Pairwise _ _ from ha)
    have ht' : ∀ g ∈ pre, hasT ts g := fun g hg => ht g (List.mem_append_left _ hg)
    obtain ⟨i1, i2, i3, i4⟩ := blocks_both (ts := ts) (n := n) (fs := pre) (by omega) ap.1 ht'
    have eg : groupsF ts (pre ++ [f]) = grp (groupsF ts pre) (placeF ts f) f.2 := by unfold groupsF; rw [List.foldl_append]; rfl
    have er : runsF ts (pre ++ [f]) = runStep ts (blocksG ts pre) f := by rw [← i1]; unfold runsF; rw [List.foldl_append]; rfl
    have last : ∀ kvs rows, groupsF ts (pre ++ [f]) = kvs ++ [(placeF ts f, rows)] → ∀ p l, pre ++ [f] = p ++ [l] → ∃ kvs rows, groupsF ts (pre ++ [f]) = kvs ++ [(placeF ts l, rows)] := fun kvs rows h p l e => by
      have := (List.append_inj' e rfl).2
      have e2 : f = l := by simpa using this
      subst e2; exact ⟨kvs, rows, h⟩
    have new : placeF ts f ∉ (groupsF ts pre).map (·.1) → runsF ts (pre ++ [f]) = blocksG ts pre ++ [⟨f.1, keyF ts f, [f.2]⟩] → runsF ts (pre ++ [f]) = blocksG ts (pre ++ [f]) ∧ (∀ k ∈ (groupsF ts (pre ++ [f])).map (·.1), ∃ g ∈ pre ++ [f], placeF ts g = k) ∧ ((groupsF ts (pre ++ [f])).map (·.1)).Nodup ∧
        ∀ p l, pre ++ [f] = p ++ [l] → ∃ kvs rows, groupsF ts (pre ++ [f]) = kvs ++ [(placeF ts l, rows)] := fun hk hr => by
      have e1 := eg.trans (grp_new hk)
      refine ⟨?_, fun k h => ?_, ?_, last _ _ e1⟩
      · rw [hr]; unfold blocksG; rw [e1, List.map_append]; rfl
      · rw [e1, List.map_append] at h
        rcases List.mem_append.mp h with h | h
        · obtain ⟨g, a, b⟩ := i2 k h
          exact ⟨g, List.mem_append_left _ a, b⟩
        · exact ⟨f, by simp, (by simpa using h : k = placeF ts f).symm⟩
      · rw [e1, List.map_append]
        exact nodup_snoc i3 hk
    rcases List.eq_nil_or_concat pre with e | ⟨p, l, e⟩
    · subst e
      exact new (by simp [groupsF]) (er.trans rfl)
    rw [List.concat_eq_append] at e
    obtain ⟨kvs, rows, hk⟩ := i4 p l e
    have hb : blocksG ts pre = kvs.map blkG ++ [⟨l.1, keyF ts l, rows⟩] := by unfold blocksG; rw [hk, List.map_append]; rfl
    by_cases q : placeF ts l = placeF ts f
    · have q1 : l.1 = f.1 ∧ keyF ts l = keyF ts f := by unfold placeF at q; exact Prod.mk.inj q
      rw [hk, List.map_append] at i3
      have nk : placeF ts f ∉ kvs.map (·.1) := by
        rw [List.nodup_append] at i3
        intro z
        exact i3.2.2 _ z _ (by simp [q]) rfl
      have e1 : groupsF ts (pre ++ [f]) = kvs ++ [(placeF ts f, rows ++ [f.2])] := by
        rw [eg, hk, q]; exact grp_last nk
      refine ⟨?_, fun k h => ?_, ?_, last _ _ e1⟩
      · rw [er, hb, runStep_yes q1]
        unfold blocksG; rw [e1, List.map_append]; rfl
      · rw [e1, List.map_append] at h
        rcases List.mem_append.mp h with h | h
        · obtain ⟨g, a, b⟩ := i2 k (by rw [hk, List.map_append]; exact List.mem_append_left _ h)
          exact ⟨g, List.mem_append_left _ a, b⟩
        · exact ⟨f, by simp, (by simpa using h : k = placeF ts f).symm⟩
      · rw [e1, List.map_append]
        exact nodup_snoc (List.nodup_append.mp i3).1 nk
    · have q1 : ¬ (l.1 = f.1 ∧ keyF ts l = keyF ts f) := fun z => q (by unfold placeF; rw [z.1, z.2])
      have hl : l ∈ pre := by rw [e]; simp
      refine new (fun z => ?_) (by rw [er, hb, runStep_no q1])
      obtain ⟨g, hg, eg2⟩ := i2 _ z
      refine q (place_between (ht' g hg) (ht' l hl) ?_ (ap.2.2 l hl f (by simp)) eg2)
      rw [e] at hg ap
      rcases List.mem_append.mp hg with hg | hg
      · exact .inr ((List.pairwise_append.mp ap.1).2.2 g hg l (by simp))
      · exact .inl (by simpa using hg)
theorem runs_blocks {ts : List Tb} {fs : List Fact} (ha : Asc fs) (ht : ∀ f ∈ fs, hasT ts f) : runsF ts fs = blocksG ts fs := (blocks_both rfl ha ht).1
theorem hasT_names : ∀ {us ts : List Tb} {f : Fact}, us.map Tb.n = ts.map Tb.n → hasT ts f → hasT us f
  | [], [], _, _, h => h
  | [], _ :: _, _, h, _ => by simp at h
  | _ :: _, [], _, h, _ => by simp at h
  | u :: us, t :: ts, f, h, ⟨x, hx⟩ => by
    rw [List.map_cons, List.map_cons] at h
    injection h with h1 h2
    unfold hasT findT at *
    rw [List.find?_cons] at hx ⊢
    by_cases e : t.n = f.1
    · rw [decide_eq_true (show u.n = f.1 from h1.trans e)]
      exact ⟨_, rfl⟩
    · rw [decide_eq_false e] at hx
      rw [decide_eq_false (fun z : u.n = f.1 => e (h1.symm.trans z))]
      exact hasT_names h2 ⟨x, hx⟩
theorem grp_all {α β : Type} [DecidableEq α] [DecidableEq β] {P : α → List β → Prop} {kvs : List (α × List β)} {k : α} {v : β} (h : ∀ p ∈ kvs, P p.1 p.2) (h1 : ∀ r, P k r → P k (r ++ [v])) (h2 : P k [v]) : ∀ p ∈ grp kvs k v, P p.1 p.2 := by
  induction kvs with
  | nil => intro p hp; rw [List.mem_singleton.mp (show p ∈ [(k, [v])] from hp)]; exact h2
  | cons q r ih =>
    intro p hp
    unfold grp at hp
    split at hp
    · rename_i e
      rcases List.mem_cons.mp hp with z | z
      · rw [z]
        have := h q (by simp)
        show P q.1 (q.2 ++ [v])
        rw [e] at this ⊢
        exact h1 _ this
      · exact h p (List.mem_cons_of_mem _ z)
    · rcases List.mem_cons.mp hp with z | z
      · rw [z]; exact h q (by simp)
      · exact ih (fun p hp => h p (List.mem_cons_of_mem _ hp)) p z
theorem groupsF_mem (ts : List Tb) (fs : List Fact) : ∀ p ∈ groupsF ts fs, p.2 ≠ [] ∧ ∀ r ∈ p.2, placeF ts (p.1.1, r) = p.1 ∧ (p.1.1, r) ∈ fs := by
  have : ∀ (post pre : List Fact) (kvs : List ((Str × VRow) × List VRow)), (∀ p ∈ kvs, p.2 ≠ [] ∧ ∀ r ∈ p.2, placeF ts (p.1.1, r) = p.1 ∧ (p.1.1, r) ∈ pre) → ∀ p ∈ post.foldl (fun kvs f => grp kvs (f.1, keyF ts f) f.2) kvs, p.2 ≠ [] ∧ ∀ r ∈ p.2, placeF ts (p.1.1, r) = p.1 ∧ (p.1.1, r) ∈ pre ++ post := by
    intro post
    induction post with
    | nil => intro pre kvs h; rw [List.append_nil]; exact h
    | cons f post ih =>
      intro pre kvs h
      have := ih (pre ++ [f]) (grp kvs (f.1, keyF ts f) f.2) (grp_all (P := fun k rows => rows ≠ [] ∧ ∀ r ∈ rows, placeF ts (k.1, r) = k ∧ (k.1, r) ∈ pre ++ [f]) (fun p hp => ⟨(h p hp).1, fun r hr => ⟨((h p hp).2 r hr).1, List.mem_append_left _ ((h p hp).2 r hr).2⟩⟩) (fun r hr => ⟨by simp, fun x hx => ?_⟩) ⟨by simp, fun x hx => ?_⟩)
      · rw [List.append_assoc] at this
        exact this
      · rcases List.mem_append.mp hx with z | z
        · exact hr.2 x z
        · rw [List.mem_singleton.mp z]; exact ⟨rfl, by simp⟩
      · rw [List.mem_singleton.mp hx]; exact ⟨rfl, by simp⟩
  exact this fs [] [] (fun p hp => by cases hp)
theorem groupsF_apart {ts : List Tb} : ∀ {fs : List Fact}, (fs.map (placeF ts)).Nodup → groupsF ts fs = fs.map fun f => (placeF ts f, [f.2]) := by
  have : ∀ (post : List Fact) (kvs : List ((Str × VRow) × List VRow)), (kvs.map (·.1) ++ post.map (placeF ts)).Nodup → post.foldl (fun kvs f => grp kvs (f.1, keyF ts f) f.2) kvs = kvs ++ post.map fun f => (placeF ts f, [f.2]) := by
    intro post
    induction post with
    | nil => intro kvs _; simp
    | cons f post ih =>
      intro kvs h
      have hn : placeF ts f ∉ kvs.map (·.1) := by
        rw [List.nodup_append] at h
        exact fun z => h.2.2 _ z _ (by simp) rfl
      rw [List.foldl_cons, show grp kvs (f.1, keyF ts f) f.2 = _ from grp_new hn, ih]
      · simp [placeF]
      · rw [List.map_append, List.append_assoc]; exact h
  intro fs h
  have := this fs [] (by simpa using h)
  rw [List.nil_append] at this
  exact this
/-- the first facts of the blocks -/
def firstF (b : Block) : Fact := (b.a, b.c.headD [])
theorem firsts_apart {ts : List Tb} {fs : List Fact} (ha : Asc fs) (ht : ∀ f ∈ fs, hasT ts f) : (((blocksG ts fs).map firstF).map (placeF ts)).Nodup ∧ ∀ f ∈ (blocksG ts fs).map firstF, hasT ts f := by
  have hm := groupsF_mem ts fs
  have e : ∀ p ∈ groupsF ts fs, placeF ts (firstF (blkG p)) = p.1 ∧ firstF (blkG p) ∈ fs := fun p hp => by
    obtain ⟨h1, h2⟩ := hm p hp
    obtain ⟨k, rows⟩ := p
    cases rows with
    | nil => exact absurd rfl h1
    | cons r rows => exact h2 r (by simp)
  constructor
  · unfold blocksG
    rw [List.map_map, List.map_map, List.map_congr_left (f := (placeF ts ∘ firstF) ∘ blkG) (g := fun p => p.1) fun p hp => (e p hp).1]
    exact (blocks_both rfl ha ht).2.2.1
  · intro f hf
    unfold blocksG at hf
    rw [List.map_map] at hf
    obtain ⟨p, hp, rfl⟩ := List.mem_map.mp hf
    exact ht _ (e p hp).2
def cleanF (ts : List Tb) (fs : List Fact) : Bool := (blocksG ts fs).all fun b => decide (b.c.length = 1)
theorem firsts_clean {ts : List Tb} {fs : List Fact} (ha : Asc fs) (ht : ∀ f ∈ fs, hasT ts f) : cleanF ts ((blocksG ts fs).map firstF) = true := by
  unfold cleanF
  rw [List.all_eq_true]
  intro b hb
  have := (firsts_apart ha ht).1
  have hb : b ∈ (groupsF ts ((blocksG ts fs).map firstF)).map blkG := hb
  rw [groupsF_apart this, List.map_map] at hb
  obtain ⟨f, _, rfl⟩ := List.mem_map.mp hb
  rfl
theorem clean_many {bs : List Block} (h : ∀ b ∈ bs, b.c ≠ []) : (bs.all fun b => decide (b.c.length = 1)) = decide (((bs.filter fun b => decide (1 < b.c.length)).length : Int) = 0) := by
  rw [Bool.eq_iff_iff, List.all_eq_true, decide_eq_true_eq]
  constructor
  · intro z
    have : bs.filter (fun b => decide (1 < b.c.length)) = [] := List.filter_eq_nil_iff.mpr fun b hb => by
      have := z b hb
      simp only [decide_eq_true_eq] at this ⊢
      omega
    rw [this]; rfl
  · intro z b hb
    have e : bs.filter (fun b => decide (1 < b.c.length)) = [] := List.length_eq_zero_iff.mp (by omega)
    have := List.filter_eq_nil_iff.mp e b hb
    simp only [decide_eq_true_eq] at this ⊢
    have h1 : b.c.length ≠ 0 := fun q => h b hb (List.length_eq_zero_iff.mp q)
    omega
theorem blocks_ne (ts : List Tb) (fs : List Fact) : ∀ b ∈ blocksG ts fs, b.c ≠ [] := fun b hb => by
  unfold blocksG at hb
  obtain ⟨p, hp, rfl⟩ := List.mem_map.mp hb
  exact (groupsF_mem ts fs p hp).1
theorem atI_head {α : Type} [DecidableEq α] [Enc α] {xs : List α} {x0 : α} (h : xs ≠ []) : atI (xs.map Enc.d) 0 = some (Enc.d (xs.headD x0)) := by
  cases xs with
  | nil => exact absurd rfl h
  | cons x xs =>
    unfold atI ixN
    rw [if_pos (Int.le_refl 0), if_pos (by rw [List.length_map, List.length_cons]; omega)]
    rfl
theorem gt1 (n : Nat) : decide ((1 : Int) < (n : Int)) = decide (1 < n) := by rw [decide_eq_decide]; omega
theorem blocks_len (ts : List Tb) (fs : List Fact) : (blocksG ts fs).length ≤ fs.length := by unfold blocksG; rw [List.length_map]; exact (groupsF_size ts fs).1
theorem enc_map {α β : Type} [DecidableEq β] [Enc β] {f : α → β} {xs : List α} : (W.d (.tuple (xs.map fun a => Enc.d (f a)))) = W.d (Enc.d (xs.map f)) := by
  show _ = W.d (.tuple ((xs.map f).map Enc.d))
  rw [List.map_map]; rfl
/-- how many mendings -/
def prodF (bs : List Block) : Int := bs.foldl (fun m b => m * (b.c.length : Int)) 1
theorem prodF_snoc (bs : List Block) (b : Block) : prodF (bs ++ [b]) = prodF bs * (b.c.length : Int) := by unfold prodF; rw [List.foldl_append]; rfl
theorem sameR_int {a b : Int} {Q : W → Prop} (h : Q (.d (.bool (decide (a = b))))) : sameR 12 (.d (.int a)) (.d (.int b)) Q := sameR_enc (a := a) (b := b) h
theorem sameR_bool {a b : Bool} {Q : W → Prop} (h : Q (.d (.bool (decide (a = b))))) : sameR 12 (.d (.bool a)) (.d (.bool b)) Q := sameR_enc (a := a) (b := b) h
theorem sameR_str {a b : Str} {Q : W → Prop} (h : Q (.d (.bool (decide (a = b))))) : sameR 12 (.d (.str a)) (.d (.str b)) Q := sameR_enc (a := a) (b := b) h
theorem isIS_row (r : VRow) : (r.map (Enc.d (α := Val))).all isIS = true := by
  rw [List.all_map, List.all_eq_true]
  intro v _
  cases v <;> rfl
theorem isV_row {r : VRow} (h : ∀ v ∈ r, v.ok = true) : (r.map (Enc.d (α := Val))).all isV = true := by
  rw [List.all_map, List.all_eq_true]
  intro v hv
  have := h v hv
  cases v with
  | i n => rfl
  | s x => exact this
theorem isF_fit {ts : List Tb} {f : Fact} (h : FitT ts f) : isF ts f.1 (f.2.map Enc.d) = true := by
  obtain ⟨⟨t, h1, h2⟩, h3⟩ := h
  unfold isF
  rw [h1]
  show (decide (_ = _) && _) = true
  rw [List.length_map, h2, decide_eq_true rfl, isV_row h3]; rfl
theorem putT_inv {α β : Type} [DecidableEq α] [Enc α] [DecidableEq β] [Enc β] {kvs : List (α × β)} {k : α} {v : β} {pre : List α} (h1 : kvs.length ≤ pre.length) (h2 : (kvs.map (·.1)).Nodup) (h3 : ∀ f, f ∈ kvs.map (·.1) ↔ f ∈ pre) :
    (putT kvs k v).length ≤ (pre ++ [k]).length ∧ ((putT kvs k v).map (·.1)).Nodup ∧ ∀ f, f ∈ (putT kvs k v).map (·.1) ↔ f ∈ pre ++ [k] := by
  refine ⟨?_, ?_, fun f => ?_⟩
  · have := putT_len kvs k v
    rw [List.length_append, List.length_singleton]; omega
  · rw [putT_keys]
    split
    · exact h2
    · exact nodup_snoc h2 (by assumption)
  · rw [putT_keys, List.mem_append, List.mem_singleton]
    split
    · rename_i h
      rw [h3]
      exact ⟨.inl, fun z => z.elim id fun e => e ▸ (h3 k).mp h⟩
    · rw [List.mem_append, List.mem_singleton, h3]
theorem facts_keys (fs : List Fact) : KeysOk (fs.map KeyE.ek) := .inl (.inl fun d hd => by
  obtain ⟨f, _, rfl⟩ := List.mem_map.mp hd
  exact ⟨_, _, rfl⟩)
theorem perm_asc {α : Type} [SO α] {xs ys : List α} (hp : ys.Perm xs) (hs : Srt ys) (nd : xs.Nodup) : Asc ys ∧ ∀ a, a ∈ ys ↔ a ∈ xs := ⟨hs.asc (hp.nodup_iff.mpr nd), fun a => hp.mem_iff⟩
/-- an item laid in -/
def insT {α : Type} (xs : List α) (i : Int) (y : α) : List α := xs.take i.toNat ++ [y] ++ xs.drop i.toNat
theorem ins_enc {α : Type} [DecidableEq α] [Enc α] {xs : List α} {i : Int} {y : α} : insD (xs.map Enc.d) i (Enc.d y) = (insT xs i y).map Enc.d := by
  unfold insD insT
  rw [List.map_append, List.map_append, List.map_take, List.map_drop]; rfl
theorem insT_len {α : Type} {xs : List α} {i : Int} {y : α} : (insT xs i y).length = xs.length + 1 := by
  unfold insT
  rw [List.length_append, List.length_append, List.length_take, List.length_drop, List.length_singleton]; omega
theorem insT_mem {α : Type} {xs : List α} {i : Int} {y a : α} : a ∈ insT xs i y ↔ a = y ∨ a ∈ xs := by
  unfold insT
  rw [List.mem_append, List.mem_append, List.mem_singleton]
  have := (List.take_append_drop i.toNat xs) ▸ (List.mem_append (a := a) (s := xs.take i.toNat) (t := xs.drop i.toNat))
  constructor
  · rintro ((z | z) | z)
    · exact .inr (List.mem_of_mem_take z)
    · exact .inl z
    · exact .inr (List.mem_of_mem_drop z)
  · rintro (z | z)
    · exact .inl (.inr z)
    · rw [← List.take_append_drop i.toNat xs] at z
      rcases List.mem_append.mp z with z | z
      · exact .inl (.inl z)
      · exact .inr z
end DL

/-! DL23: zip of two tuples. -/
namespace DL
open PySem PySem.Spec PyProof.Rows L2
/-- the tuples at a and b, the items in new pairs -/
def Izt (K : PySem.W.Frag) (a b : Addr) (xs ys : List V) : It :=
  ⟨fun i H => SqT K H a xs ∧ SqT K H b ys ∧ i < xs.length ∧ i < ys.length,
    fun i H v H' => ∃ T x y, v = .ref T ∧ H T = none ∧ (∃ ob : Obj, ob.dict = none ∧ H' = upd H T (.frz ob (.tup [x, y]))) ∧ xs[i]? = some x ∧ ys[i]? = some y,
    fun i H => SqT K H a xs ∧ SqT K H b ys ∧ i ≤ xs.length ∧ i ≤ ys.length ∧ (i = xs.length ∨ i = ys.length)⟩
theorem turn_zt {P : Program} {w : World} {K : PySem.W.Frag} {elts : List Expr} {kk : Nat} {tpos : Pos} {a b z TI TO i1 i2 : Addr} {xs ys : List V} (D : ZipSep2 z TI TO i1 i2 [i1, a] [i2, b]) :
    Turn P w K (.Tuple elts kk tpos) (Izt K a b xs ys) [z, TI, TO, i1, i2] z (fun i h => IsZip h z TI TO .none ∧ IsTupOf2 h TI (.ref i1) (.ref i2) ∧ (∃ x y, IsTupOf2 h TO x y) ∧ h.IsTupleIter i1 a i ∧ h.IsTupleIter i2 b i) where
  mem := by simp
  obj := fun i h st c hc => by
    obtain ⟨hz, hTI, ⟨x, y, hTO⟩, ⟨o1, e1, _, d1⟩, ⟨o2, e2, _, d2⟩⟩ := st
    have e' : c = z ∨ c = TI ∨ c = TO ∨ c = i1 ∨ c = i2 := by simpa using hc
    rcases e' with q | q | q | q | q
    · rw [q]; exact ⟨_, hz, fun v q => nomatch q⟩
    · rw [q]; exact ⟨_, hTI, fun v q => nomatch q⟩
    · rw [q]; exact ⟨_, hTO, fun v q => nomatch q⟩
    · rw [q]; exact ⟨o1, e1, fun v q => by rw [d1] at q; cases q⟩
    · rw [q]; exact ⟨o2, e2, fun v q => by rw [d2] at q; cases q⟩
  keep := fun i h h' st k => by
    obtain ⟨hz, hTI, ⟨x, y, hTO⟩, h1, h2⟩ := st
    exact ⟨k z (by simp) _ hz, k TI (by simp) _ hTI, ⟨x, y, k TO (by simp) _ hTO⟩, h1.at fun o q => k i1 (by simp) o q, h2.at fun o q => k i2 (by simp) o q⟩
  item := by
    intro X hP hw hK hc i pins s σ H E I hf st hg
    subst hP hw hK
    obtain ⟨hz, hTI, ⟨x0, y0, hTO⟩, h1, h2⟩ := st
    obtain ⟨hqx, hqy, lx, ly⟩ := hg
    obtain ⟨its, rv, p, _⟩ := I.tuple hqx
    obtain ⟨its2, rv2, p2, _⟩ := I.tuple hqy
    have hh := I.ok.hd hc
    have l1 := rv.length
    have l2 := rv2.length
    have hzl : z < s.heap.objs.size := Heap.lt_size hz
    have n1 : a ≠ i1 := fun e => by
      obtain ⟨o, e1, e2, _⟩ := h1
      obtain ⟨o', e1', e2', _⟩ := (show s.heap.IsTuple a its.toArray from p)
      rw [e, e1] at e1'; cases e1'; rw [e2] at e2'; exact absurd e2' (by simp)
    have n2 : b ≠ i2 := fun e => by
      obtain ⟨o, e1, e2, _⟩ := h2
      obtain ⟨o', e1', e2', _⟩ := (show s.heap.IsTuple b its2.toArray from p2)
      rw [e, e1] at e1'; cases e1'; rw [e2] at e2'; exact absurd e2' (by simp)
    refine wpAny_pyNext_zipD2_item D (Draws.tuple (show X.A.in1.handled = none from hh) i1 a n1 its.toArray) (Draws.tuple (show X.A.in1.handled = none from hh) i2 b n2 its2.toArray) hz hTI hTO ⟨h1, p⟩ ⟨h2, p2⟩ (by simp; omega) (by simp; omega) fun u u2 h' tk hu hu2 z' TO' h1' h2' hT hsz hk => ?_
    obtain ⟨x, y1, y2⟩ : ∃ x, xs[i]? = some x ∧ RelV x u := by
      obtain ⟨w', e, r⟩ := rv.get (List.getElem?_eq_getElem lx)
      have : its[i]? = some u := by simpa using hu
      rw [this] at e; cases e
      exact ⟨_, List.getElem?_eq_getElem lx, r⟩
    obtain ⟨y, y3, y4⟩ : ∃ y, ys[i]? = some y ∧ RelV y u2 := by
      obtain ⟨w', e, r⟩ := rv2.get (List.getElem?_eq_getElem ly)
      have : its2[i]? = some u2 := by simpa using hu2
      rw [this] at e; cases e
      exact ⟨_, List.getElem?_eq_getElem ly, r⟩
    refine ⟨_, rfl, wpAny_letOwnedTupleGo_zip (s := { s with heap := h', toks := tk }) z' fun h'' z'' sb => ?_⟩
    have hT2 : h''.get? s.heap.objs.size = some { cls := .type "tuple", data := .seq #[u, u2] } := (sb.2 _ (Nat.ne_of_gt hzl)).trans hT
    have new : ObjOk X.prog X.w (upd H s.heap.objs.size (.frz { cls := .type "tuple", data := .seq #[u, u2] } (.tup [x, y]))) h'' s.heap.objs.size (.frz { cls := .type "tuple", data := .seq #[u, u2] } (.tup [x, y])) :=
      ⟨hT2, by show 2 ≤ sizeLine; decide, [u, u2], .cons y2 (.cons y4 .nil), ⟨_, hT2, rfl, _, rfl⟩⟩
    have I1 : Inv X pins σ (upd H s.heap.objs.size (.frz { cls := .type "tuple", data := .seq #[u, u2] } (.tup [x, y]))) { s with heap := h'', toks := tk } :=
      I.turnedNew (t' := tk) (ch := [z, TI, TO, i1, i2]) (fun c o hb q => (sb.2 c (fun q' => hb (by simp [q']))).trans (hk c o (fun q' => hb (by simp [q'])) (fun q' => hb (by simp [q'])) (fun q' => hb (by simp [q'])) (fun q' => hb (by simp [q'])) q)) hf (Nat.le_refl _) new
    refine ⟨.ref s.heap.objs.size, _, I1, rfl, ⟨_, x, y, rfl, I.hok.fresh (Nat.le_refl _), ⟨_, rfl, rfl⟩, y1, y3⟩, ⟨z'', ?_, ⟨u, u2, ?_⟩, ?_, ?_⟩, fun c hcm => ?_⟩
    · exact (sb.2 _ D.TIz).trans (hk _ _ D.TIz D.TITO D.TIi1 D.TIi2 hTI)
    · exact (sb.2 _ D.TOz).trans TO'
    · exact h1'.1.at fun o q => (sb.2 _ (Ne.symm D.zi1)).trans q
    · exact h2'.1.at fun o q => (sb.2 _ (Ne.symm D.zi2)).trans q
    · have hlt : c < s.heap.objs.size := by
        have e' : c = z ∨ c = TI ∨ c = TO ∨ c = i1 ∨ c = i2 := by simpa using hcm
        rcases e' with q | q | q | q | q
        · rw [q]; exact hzl
        · rw [q]; exact Heap.lt_size hTI
        · rw [q]; exact Heap.lt_size hTO
        · rw [q]; obtain ⟨_, e1, _⟩ := h1; exact Heap.lt_size e1
        · rw [q]; obtain ⟨_, e2, _⟩ := h2; exact Heap.lt_size e2
      rw [upd_ne (Nat.ne_of_lt hlt)]
      exact (hf c hcm).1
  done := by
    intro X hP hw hK hc i pins s σ H E I hf st hg
    subst hP hw hK
    obtain ⟨hz, hTI, ⟨x0, y0, hTO⟩, h1, h2⟩ := st
    obtain ⟨hqx, hqy, lx, ly, hend⟩ := hg
    obtain ⟨its, rv, p, _⟩ := I.tuple hqx
    obtain ⟨its2, rv2, p2, _⟩ := I.tuple hqy
    have hh := I.ok.hd hc
    have l1 := rv.length
    have l2 := rv2.length
    have n1 : a ≠ i1 := fun e => by
      obtain ⟨o, e1, e2, _⟩ := h1
      obtain ⟨o', e1', e2', _⟩ := (show s.heap.IsTuple a its.toArray from p)
      rw [e, e1] at e1'; cases e1'; rw [e2] at e2'; exact absurd e2' (by simp)
    have n2 : b ≠ i2 := fun e => by
      obtain ⟨o, e1, e2, _⟩ := h2
      obtain ⟨o', e1', e2', _⟩ := (show s.heap.IsTuple b its2.toArray from p2)
      rw [e, e1] at e1'; cases e1'; rw [e2] at e2'; exact absurd e2' (by simp)
    exact wpAny_pyNext_zipD2_end D (Draws.tuple (show X.A.in1.handled = none from hh) i1 a n1 its.toArray) (Draws.tuple (show X.A.in1.handled = none from hh) i2 b n2 its2.toArray) hz hTI hTO ⟨h1, p⟩ ⟨h2, p2⟩ (by simp; omega) (by simp; omega) (by simp; omega) fun h' tk hk => ⟨rfl, I.turnedL (t' := tk) (ch := [z, TI, TO, i1, i2]) (fun c o hb q =>
      hk c o (fun q' => hb (by simp [q'])) (fun q' => hb (by simp [q'])) (fun q' => hb (by simp [q'])) (fun q' => hb (by simp [q'])) q) hf⟩
  self := fun A i s Q E st h => wpAny_pyIter_zip st.1 h
def iZt (K : PySem.W.Frag) (ta : TA) : TI := fun σ H R => ta σ H fun vs H1 => ∃ a b xs ys, vs = [.ref a, .ref b] ∧ SqT K H1 a xs ∧ SqT K H1 b ys ∧ R (Izt K a b xs ys) H1
theorem pi_zt {X : Cx} {e e2 : Expr} {ta : TA} {p pos tpos : Pos} {elts : List Expr} {kk : Nat} (hg : Gl X "zip") (hm : X.mg "zip" = none) (ha : PA X [e, e2] ta)
    (hs : starEach [e, e2] X.env = (false, eval e X.env) :: starEach [e2] X.env := by rfl) (hpl : (backTo pos (starEach [e2] X.env)).any (·.1) = false := by rfl) :
    PI X (.Tuple elts kk tpos) (.Call (.Name "zip" p) [e, e2] [] pos) (iZt X.K ta) := by
  refine ⟨fun pins s σ H R I h => ?_⟩
  refine Call_ (ld_blt I hg hm PyProof.Rows.boot_zip (PyProof.Rows.callWith_type1 (thn (ha.run pos pins s σ H _ I h) fun us s1 ⟨vs, H1, I1, r1, q1⟩ => ?_) hs hpl))
  obtain ⟨a, b, xs, ys, ex, hqx, hqy, q⟩ := q1
  subst ex
  cases r1 with
  | cons r rr =>
    cases rr with
    | cons r' rr =>
      cases rr
      cases r
      cases r'
      obtain ⟨its, rv, p1, _⟩ := I1.tuple hqx
      obtain ⟨its2, rv2, p2, _⟩ := I1.tuple hqy
      have la : a < s1.heap.objs.size := by obtain ⟨o, e, _⟩ := (show s1.heap.IsTuple a its.toArray from p1); exact Heap.lt_size e
      have lb : b < s1.heap.objs.size := by obtain ⟨o, e, _⟩ := (show s1.heap.IsTuple b its2.toArray from p2); exact Heap.lt_size e
      refine zip_begins2 (begins_tuple a its.toArray) (begins_tuple b its2.toArray) p1 p2 fun h' hz hTI hTO h1 h2 hsz hk => wpAny_pyIter_zip hz ?_
      have I2 : Inv X pins σ H1 { s1 with heap := h' } := I1.kept (t' := s1.toks) hk
      have sep : ZipSep2 (s1.heap.objs.size + 4) (s1.heap.objs.size + 2) (s1.heap.objs.size + 3) s1.heap.objs.size (s1.heap.objs.size + 1) [s1.heap.objs.size, a] [s1.heap.objs.size + 1, b] :=
        zip_sep2 (fp1 := [a]) (fp2 := [b]) (fun c hc => by rw [List.mem_singleton.mp hc]; exact la) (fun c hc => by rw [List.mem_singleton.mp hc]; exact lb)
      refine ⟨s1.heap.objs.size + 4, [s1.heap.objs.size + 4, s1.heap.objs.size + 2, s1.heap.objs.size + 3, s1.heap.objs.size, s1.heap.objs.size + 1], _, _, H1, rfl, I2, turn_zt sep, ⟨hz, hTI, ⟨_, _, hTO⟩, ⟨_, h1, rfl, rfl⟩, ⟨_, h2, rfl, rfl⟩⟩, fun c hcm => ?_, q⟩
      have e' : c = s1.heap.objs.size + 4 ∨ c = s1.heap.objs.size + 2 ∨ c = s1.heap.objs.size + 3 ∨ c = s1.heap.objs.size ∨ c = s1.heap.objs.size + 1 := by simpa using hcm
      have hle : s1.heap.objs.size ≤ c := by
        rcases e' with q | q | q | q | q
        · rw [q]; exact Nat.le_add_right _ _
        · rw [q]; exact Nat.le_add_right _ _
        · rw [q]; exact Nat.le_add_right _ _
        · rw [q]; exact Nat.le_refl _
        · rw [q]; exact Nat.le_add_right _ _
      exact I1.fpOk hle (I1.hok.fresh hle)
section
variable {X : Cx} {Z : Wish} {pos : Pos} {K : KW} {tg e : Expr}
theorem itOk_zt {G Hb : Hp} {a b : Addr} {vs ws : List V} {xs ys : List PyData} (h1 : SqT K G a vs) (h2 : SqT K G b ws) (al : IsAll K G vs xs) (bl : IsAll K G ws ys) : ItOk K G Hb (Izt K a b vs ws) ((xs.zip ys).map fun p => .tuple [p.1, p.2]) := by
  intro G' H' e1 e2 e3 i
  have s1 := e2.sqT (e1.sqT h1)
  have s2 := e2.sqT (e1.sqT h2)
  have l1 := al.len
  have l2 := bl.len
  refine ⟨fun d hd => ?_, fun hi => ?_⟩
  · rw [List.getElem?_map] at hd
    cases hp : (xs.zip ys)[i]? with
    | none => rw [hp] at hd; cases hd
    | some p =>
      rw [hp] at hd
      cases hd
      obtain ⟨q1, q2⟩ := List.getElem?_zip_eq_some.mp hp
      obtain ⟨v, hv, iv⟩ := al.get q1
      obtain ⟨w, hw, iw⟩ := bl.get q2
      refine ⟨⟨s1, s2, (List.getElem?_eq_some_iff.mp hv).1, (List.getElem?_eq_some_iff.mp hw).1⟩, fun x H'' y => ?_⟩
      obtain ⟨T, x1, y1, rfl, hT, ⟨ob, od, rfl⟩, hx, hy⟩ := y
      rw [hv] at hx; cases hx
      rw [hw] at hy; cases hy
      have u1 := Up.newG (o := .frz ob (.tup [v, w])) e2 hT
      exact ⟨_, u1, Is.newT od (e2.back hT) (by show 2 ≤ sizeLine; rw [sizeLine_eq]; decide) (.cons (iv.up e1) (.cons (iw.up e1) .nil))⟩
  · rw [List.length_map, List.length_zip] at hi
    exact ⟨s1, s2, by omega, by omega, by omega⟩
def dZip (t : TAd) : TId := fun ρ Q => t ρ fun ws => match ws with
  | [.d (.tuple xs), .d (.tuple ys)] => Q ((xs.zip ys).map fun p => .tuple [p.1, p.2])
  | _ => False
/-- zip of two tuples -/
theorem di_zip {lc : Bool} {a b : Expr} {t : TAd} {p tpos : Pos} {elts : List Expr} {kk : Nat} (hm : X.mg "zip" = none) (ha : PDA X Z [a, b] t) (hg : Gl X "zip" := by rfl) (hs : starEach [a, b] X.env = (false, eval a X.env) :: starEach [b] X.env := by rfl) (hpl : (backTo pos (starEach [b] X.env)).any (·.1) = false := by rfl) :
    PDI lc X Z (.Tuple elts kk tpos) (.Call (.Name "zip" p) [a, b] [] pos) (dZip t) := by
  obtain ⟨te, pa, s⟩ := ha
  refine ⟨_, pi_zt hg hm pa hs hpl, fun G0 H0 G H σ ρ Q' R E gd hh k => ?_⟩
  refine s G0 H0 G H σ ρ _ _ E gd hh fun vs ws G1 H1 u1 r1 q1 => ?_
  split at q1
  · rename_i xs ys
    obtain ⟨v1, v2, rfl, ra, rb⟩ := r1.two
    obtain ⟨p1, us1, rfl, h1, z1, al⟩ := Is.inT (show Is (kw X) G1 v1 (.tuple xs) from ra)
    obtain ⟨p2, us2, rfl, h2, z2, bl⟩ := Is.inT (show Is (kw X) G1 v2 (.tuple ys) from rb)
    refine ⟨p1, p2, us1, us2, rfl, u1.gh.sqT h1, u1.gh.sqT h2, k _ G1 H1 _ u1 (itOk_zt h1 h2 al bl) ?_ q1⟩
    rw [List.length_map, List.length_zip]; omega
  · exact q1.elim
theorem zip_enc {α β : Type} [DecidableEq α] [Enc α] [DecidableEq β] [Enc β] (xs : List α) (ys : List β) : ((xs.map Enc.d).zip (ys.map Enc.d)).map (fun p => PyData.tuple [p.1, p.2]) = (xs.zip ys).map Enc.d := by
  rw [List.zip_map, List.map_map]; rfl
end
def memT {α : Type} [DecidableEq α] (a : α) (xs : List α) : Bool := decide (a ∈ xs)
theorem memT_yes {α : Type} [DecidableEq α] {a : α} {xs : List α} (h : a ∈ xs) : memT a xs = true := decide_eq_true h
theorem memT_iff {α : Type} [DecidableEq α] {a : α} {xs : List α} : memT a xs = true ↔ a ∈ xs := decide_eq_true_iff
/-- one fact of each block -/
def isMend (bs : List Block) (ms : List Fact) : Bool := decide (ms.length = bs.length) && (ms.zip bs).all fun p => decide (p.1.1 = p.2.a) && memT p.1.2 p.2.c
/-- what each item has by its side -/
inductive Each {α β : Type} (P : α → β → Prop) : List α → List β → Prop
  | nil : Each P [] []
  | cons {a : α} {b : β} {as : List α} {bs : List β} : P a b → Each P as bs → Each P (a :: as) (b :: bs)
theorem Each.snoc {α β : Type} {P : α → β → Prop} {a : α} {b : β} (h : P a b) : ∀ {as : List α} {bs : List β}, Each P as bs → Each P (as ++ [a]) (bs ++ [b])
  | _, _, .nil => .cons h .nil
  | _, _, .cons x y => .cons x (Each.snoc h y)
theorem Each.len {α β : Type} {P : α → β → Prop} {as : List α} {bs : List β} (h : Each P as bs) : as.length = bs.length := by
  induction h with
  | nil => rfl
  | cons _ _ ih => simp [ih]
theorem lcR_fitN {α β : Type} [DecidableEq α] [Enc α] [DecidableEq β] [Enc β] {xs : List α} {en : α → PyData} {g : TGd} {c : TTd} {elt : TEd} {vs : List Nat} {ρ : En} {Q : W → Prop} (P : α → β → Prop) (h : ∀ x ∈ xs, ∀ (k : PyData → Prop) (z : Prop), (∀ b : β, P x b → k (Enc.d b)) → g (en x) (wipeD ρ vs) fun ρ' => c ρ' fun b => iB b (elt ρ' fun w => onFw w fun y => k y) z)
    (q : ∀ r : List β, Each P xs r → Q (.l (r.map Enc.d))) : lcR (xs.map en) g c elt vs ρ Q := by
  refine lcR_inv (fun pre acc => ∃ r : List β, acc = r.map Enc.d ∧ Each P pre r) ⟨[], rfl, .nil⟩ (fun pre x post acc e ha => ?_) fun acc ⟨r, e1, e2⟩ => by rw [e1]; exact q r e2
  obtain ⟨r, rfl, e2⟩ := ha
  have hx : x ∈ xs := by rw [e]; simp
  exact h x hx (fun y => ∃ r' : List β, r.map Enc.d ++ [y] = r'.map Enc.d ∧ Each P (pre ++ [x]) r') _ fun b hb => ⟨r ++ [b], by rw [List.map_append]; rfl, .snoc hb e2⟩
theorem isMend_of {bs : List Block} {ms : List Fact} (h : Each (fun (b : Block) (m : Fact) => m.1 = b.a ∧ m.2 ∈ b.c) bs ms) : isMend bs ms = true := by
  unfold isMend
  rw [decide_eq_true h.len.symm, Bool.true_and]
  induction h with
  | nil => rfl
  | cons p _ ih =>
    rw [List.zip_cons_cons, List.all_cons, ih, decide_eq_true p.1, memT_yes p.2]; rfl
theorem atI_at {α : Type} [DecidableEq α] [Enc α] {xs : List α} {i : Nat} (h : i < xs.length) : atI (xs.map Enc.d) (0 + (i : Int)) = some (Enc.d xs[i]) := by
  rw [Int.zero_add]
  unfold atI ixN
  rw [if_pos (Int.natCast_nonneg i), List.length_map, if_pos (by omega)]
  show (xs.map Enc.d)[(i : Int).toNat]? = _
  rw [Int.toNat_natCast, List.getElem?_map, List.getElem?_eq_getElem h]; rfl
theorem atI_n {α : Type} [DecidableEq α] [Enc α] {xs : List α} {i : Nat} (h : i < xs.length) : atI (xs.map Enc.d) (i : Int) = some (Enc.d xs[i]) := by
  have := atI_at h
  rwa [Int.zero_add] at this
theorem isMend_iff {bs : List Block} {ms : List Fact} : isMend bs ms = true ↔ ms.length = bs.length ∧ ∀ (j : Nat) (h1 : j < ms.length) (h2 : j < bs.length), ms[j].1 = bs[j].a ∧ ms[j].2 ∈ bs[j].c := by
  unfold isMend
  rw [Bool.and_eq_true, decide_eq_true_eq, List.all_eq_true]
  refine and_congr_right fun _ => ⟨fun h j h1 h2 => ?_, fun h p hp => ?_⟩
  · have := h (ms[j], bs[j]) (List.mem_iff_getElem.mpr ⟨j, by rw [List.length_zip]; omega, List.getElem_zip⟩)
    rw [Bool.and_eq_true, decide_eq_true_eq, memT_iff] at this
    exact this
  · obtain ⟨j, hj, rfl⟩ := List.mem_iff_getElem.mp hp
    rw [List.length_zip] at hj
    rw [List.getElem_zip, Bool.and_eq_true, decide_eq_true_eq, memT_iff]
    exact h j (by omega) (by omega)
theorem ixN_n {n i : Nat} (h : i < n) : ixN n (i : Int) = some i := by
  unfold ixN
  rw [if_pos (Int.natCast_nonneg i), if_pos (by omega), Int.toNat_natCast]
theorem set_enc {α : Type} [DecidableEq α] [Enc α] {xs : List α} {i : Nat} {a : α} : (xs.map Enc.d).set i (Enc.d a) = (xs.set i a).map Enc.d := by rw [List.map_set]
theorem erase_enc {α : Type} [DecidableEq α] [Enc α] {xs : List α} {i : Nat} : (xs.map Enc.d).eraseIdx i = (xs.eraseIdx i).map Enc.d := by
  induction xs generalizing i with
  | nil => rfl
  | cons x xs ih =>
    cases i with
    | zero => rfl
    | succ i => rw [List.map_cons, List.eraseIdx_cons_succ, ih, List.eraseIdx_cons_succ, List.map_cons]
theorem isMend_len {bs : List Block} {ms : List Fact} (h : ms.length ≠ bs.length) : isMend bs ms = false := by
  unfold isMend
  rw [decide_eq_false h]; rfl
theorem mend_mem {ts : List Tb} {gs ms : List Fact} (h : isMend (blocksG ts gs) ms = true) : ∀ m ∈ ms, m ∈ gs := by
  obtain ⟨hl, hj⟩ := isMend_iff.mp h
  intro m hm
  obtain ⟨j, h1, rfl⟩ := List.mem_iff_getElem.mp hm
  obtain ⟨q1, q2⟩ := hj j h1 (by omega)
  have hb : (blocksG ts gs)[j]'(by omega) ∈ blocksG ts gs := List.getElem_mem _
  unfold blocksG at hb
  obtain ⟨p, hp, e⟩ := List.mem_map.mp hb
  have hg := (groupsF_mem ts gs p hp).2 (ms[j].2) (by
    have e2 : p.2 = ((blocksG ts gs)[j]'(by omega)).c := congrArg Tr.c e
    rw [e2]; exact q2)
  have e3 : p.1.1 = ((blocksG ts gs)[j]'(by omega)).a := congrArg Tr.a e
  rw [e3, ← q1] at hg
  exact hg.2
end DL

/-! DL24: methods of lists and tuples as values (index, count), reversed, min and max of two, y = xs.pop(i). -/
namespace DL
open PySem PySem.Spec PyProof.Rows L2
open RT
/-! ### the receiver: a list, or a tuple without a dict -/
def tyLT (K : PySem.W.Frag) (T : String) (x : V) (H : Hp) : Prop := ∃ p, x = .ref p ∧ ((T = "list" ∧ ∃ xs, SqL K H p xs) ∨ (T = "tuple" ∧ (∃ xs, SqT K H p xs) ∧ TupD K H p))
section
variable {X : Cx}
theorem tyLT_is {pins : List (Addr × Obj)} {σ : L2.St} {H : Hp} {s : Shared} {T : String} {x : V} {v : Value} (I : Inv X pins σ H s) (r : RelV x v) (ty : tyLT X.K T x H) :
    s.TypeIs v T ∧ ∀ a, v = .ref a → ∃ ob, s.heap.get? a = some ob ∧ ob.dict = none := by
  obtain ⟨p, rfl, ⟨rfl, xs, h⟩ | ⟨rfl, ⟨xs, h⟩, hd⟩⟩ := ty
  · cases r
    obtain ⟨its, rv, ⟨o, n, ho, hc, hdn, hdt⟩, _⟩ := I.list h
    refine ⟨⟨o, ho, hc⟩, fun a e => ?_⟩
    cases e
    exact ⟨o, ho, hdn⟩
  · cases r
    obtain ⟨its, rv, p', _⟩ := I.tuple h
    refine ⟨p'.typeIs, fun a e => ?_⟩
    cases e
    rcases hd with ⟨o, u, h1, d⟩ | ⟨o, h1, d⟩
    · exact ⟨o, (show ObjOk X.prog X.w H s.heap p (.frz o u) from I.hok p _ h1).1, d⟩
    · exact ⟨o, I.kIn p o h1, d⟩
/-- o.name(e ..), o a list or a tuple -/
def tBM2 (K : PySem.W.Frag) (r1 r2 : V → List V → Hp → VK → Prop) (to : TE) (t : TA) : TE := fun σ H Q => to σ H fun x H1 => (tyLT K "list" x H1 ∧ t σ H1 fun xs H2 => r1 x xs H2 Q) ∨ (tyLT K "tuple" x H1 ∧ t σ H1 fun xs H2 => r2 x xs H2 Q)
theorem pe_bm2 {o e : Expr} {es : List Expr} {to : TE} {t : TA} {name : Str} {apos cpos : Pos} {id1 id2 : String} {r1 r2 : V → List V → Hp → VK → Prop} (slot1 : Slot "list" name id1) (slot2 : Slot "tuple" name id2)
    (hty1 : typeOf (.builtin id1) = pure (.type "method_descriptor")) (hty2 : typeOf (.builtin id2) = pure (.type "method_descriptor")) (hm1 : MtR X id1 r1) (hm2 : MtR X id2 r2) (ho : PE X o to) (ha : PA X (e :: es) t)
    (hbase : attributeBase o name X.env (eval o X.env) = eval o X.env := by rfl)
    (hfew : ((backTo cpos (starEach (e :: es) X.env)).all (fun x => !x.1) && (backToKw cpos (keywordEach [] X.env)).all (fun x => x.1.isSome)
      && decide ((e :: es).length + ([] : List Keyword).length + (if ([] : List Keyword).isEmpty then 0 else 1) < 30)) = true := by rfl)
    (hline : (apos.endLine == cpos.line) = true := by rfl) (hs : starEach (e :: es) X.env = (false, eval e X.env) :: starEach es X.env := by rfl) (hplain : (backTo cpos (starEach es X.env)).any (·.1) = false := by rfl) :
    PE X (.Call (.Attribute o name apos) (e :: es) [] cpos) (tBM2 X.K r1 r2 to t) := by
  refine ⟨fun pins s σ H Q I h => ?_⟩
  refine wpAny_Call_method_late hbase hfew hline rfl (thn (ho.run pins s σ H _ I h) fun v s1 ⟨x, H1, I1, r, q⟩ => ?_)
  rcases q with ⟨ty, q1⟩ | ⟨ty, q1⟩
  · obtain ⟨h1, h2⟩ := tyLT_is I1 r ty
    refine ⟨"list", id1, PySem.F.plainAttrs_list, slot1, hty1, h1, h2, ?_⟩
    have hA := ha.run cpos pins s1 σ H1 _ I1 q1
    rw [hs] at hA ⊢
    refine Calls.callWith_builtin (by show (false || (backTo cpos (starEach es X.env)).any (·.1)) = false; rw [hplain] <;> rfl) (Calls.evalArgs_plain ?_)
    exact thn hA fun us s2 ⟨vs, H2, I2, r2, q2⟩ => hm1 pins s2 σ H2 x vs v us Q I2 r r2 q2
  · obtain ⟨h1, h2⟩ := tyLT_is I1 r ty
    refine ⟨"tuple", id2, PySem.F.plainAttrs_tuple, slot2, hty2, h1, h2, ?_⟩
    have hA := ha.run cpos pins s1 σ H1 _ I1 q1
    rw [hs] at hA ⊢
    refine Calls.callWith_builtin (by show (false || (backTo cpos (starEach es X.env)).any (·.1)) = false; rw [hplain] <;> rfl) (Calls.evalArgs_plain ?_)
    exact thn hA fun us s2 ⟨vs, H2, I2, r2, q2⟩ => hm2 pins s2 σ H2 x vs v us Q I2 r r2 q2
/-! ### index, count over data -/
def plD (tup : Bool) (ds : List PyData) : PyData := if tup = true then .tuple ds else .list ds
def rIdx (K : PySem.W.Frag) (tup : Bool) : V → List V → Hp → VK → Prop := fun x xs H Q => ∃ (a : Addr) (y : V) (d : PyData) (ds : List PyData) (j : Nat), x = V.ref a ∧ xs = [y] ∧ Dp K H (V.ref a) (plD tup ds) ∧ Dp K H y d ∧
  SeqAt.shaped (plD tup ds) = true ∧ SeqAt.shaped d = true ∧ SeqAt.dataPlace ds d = some j ∧ Q (.int (j : Nat)) H
def rCnt (K : PySem.W.Frag) (tup : Bool) : V → List V → Hp → VK → Prop := fun x xs H Q => ∃ (a : Addr) (y : V) (d : PyData) (ds : List PyData), x = V.ref a ∧ xs = [y] ∧ Dp K H (V.ref a) (plD tup ds) ∧ Dp K H y d ∧
  SeqAt.shaped (plD tup ds) = true ∧ SeqAt.shaped d = true ∧ Q (.int ((ds.countP fun z => PyData.eqv z d : Nat) : Int)) H
theorem place_hit {ds : List PyData} {d : PyData} {j : Nat} (h : SeqAt.dataPlace ds d = some j) : ∃ z, ds[j]? = some z ∧ PyData.eqv z d = true ∧ ∀ (m : Nat) (z' : PyData), m < j → ds[m]? = some z' → PyData.eqv z' d = false := by
  obtain ⟨h1, h2, h3⟩ := List.findIdx?_eq_some_iff_getElem.mp h
  refine ⟨ds[j], List.getElem?_eq_getElem h1, h2, fun m z' hm hz => ?_⟩
  obtain ⟨h4, rfl⟩ := List.getElem?_eq_some_iff.mp hz
  have := h3 m hm
  simpa using this
theorem mt_idxL (hu : X.A.units + 65 < cLine) : MtR X "list.index" (rIdx X.K false) := by
  intro pins s σ H x xs v us Q I rx rxs h
  obtain ⟨a, y, d, ds, j, e1, e2, hl, hy, sl, sd, hp, q⟩ := h
  obtain ⟨z, hz, hzj, hno⟩ := place_hit hp
  exact mt_indexD hu pins s σ H x xs v us Q I rx rxs ⟨a, y, d, ds, j, z, e1, e2, hl, hy, sl, sd, hz, hzj, hno, q⟩
theorem at_read {s : Shared} {σ : L2.St} {H : Hp} {pins : List (Addr × Obj)} {vs : List V} {its : List Value} {ds : List PyData} (I : Inv X pins σ H s) (ha : DpAll X.K H vs ds) (rv : Vals vs its) (hxs : PyData.canLayAll0 ds = true) :
    ∃ as, ReadsAll s.heap its ds as ∧ its.length = ds.length ∧ its.map (SeqAt.readOf s.heap) = ds := by
  obtain ⟨as, h4⟩ := Dp.readsAll I ds _ its ha rv
  exact ⟨as, h4, SeqAt.ReadsAll.length ds its as h4, SeqAt.readsAll_map ds its as hxs h4⟩
theorem mt_idxT (hu : X.A.units + 65 < cLine) : MtR X "tuple.index" (rIdx X.K true) := by
  intro pins s σ H x xs v us Q I rx rxs h
  obtain ⟨a, y, d, ds, j, rfl, rfl, hl, hy, sl, sd, hp, q⟩ := h
  obtain ⟨z, hz, hzj, hno⟩ := place_hit hp
  cases rx
  cases rxs with
  | cons ry rt =>
    rename_i uy ut
    cases rt
    obtain ⟨bs, r1⟩ := Dp.reads I d y uy hy ry
    have hl : Dp X.K H (V.ref a) (.tuple ds) := hl
    have hxs : PyData.canLayAll0 ds = true := SeqAt.canLay_of_shaped sl
    have hroom : X.A.units + 1 + min (PyData.depthAll ds) d.depth < cLine := room_in_shaped sd hu
    cases hl with
    | tup hs ha =>
      obtain ⟨its, rv, p', hlen⟩ := I.tuple hs
      obtain ⟨⟨cls, dd, data, sls⟩, ho, hc, n, hdt⟩ := id p'
      simp only at hc hdt
      subst hc hdt
      obtain ⟨as, h4, hn, hmap⟩ := at_read I ha rv hxs
      obtain ⟨hjd, _⟩ := List.getElem?_eq_some_iff.mp hz
      have hj : j < its.toArray.size := by simpa using (show j < its.length by omega)
      have at_ : ∀ (m : Nat) (hm : m < its.toArray.size) (z' : PyData), ds[m]? = some z' → SeqAt.readOf s.heap its.toArray[m] = z' := by
        intro m hm z' hz'
        have hml : m < its.length := by simpa using hm
        rw [← hmap, List.getElem?_map, List.getElem?_eq_getElem hml] at hz'
        have e1 : SeqAt.readOf s.heap its[m] = z' := Option.some.inj (show some (SeqAt.readOf s.heap its[m]) = some z' from hz')
        simpa using e1
      refine call_meets PySem.F.slot_tuple_index ⟨_, ho, rfl⟩ PySem.F.entry_tuple_index (PySem.F.args_tuple_index_2 _ _)
        (TI.tuple_indexAt a its.toArray n dd sls uy (fun u => PyData.eqv (SeqAt.readOf s.heap u) d) j hj ?_ ?_) ⟨ho, SeqAt.items_eqAt (vs := its.toArray) (show ReadsAll s.heap its.toArray.toList ds as from h4) r1 hxs (SeqAt.canLay_of_shaped sd) hroom, ?_⟩
      · show PyData.eqv (SeqAt.readOf s.heap its.toArray[j]) d = true
        rw [at_ j hj z hz]
        exact hzj
      · intro m hm hmj
        have hmd : m < ds.length := by
          have : m < its.length := by simpa using hm
          omega
        have hz' : ds[m]? = some ds[m] := List.getElem?_eq_getElem hmd
        show PyData.eqv (SeqAt.readOf s.heap its.toArray[m]) d = false
        rw [at_ m hm _ hz']
        exact hno m _ hmj hz'
      · exact ⟨.int (j : Nat), H, I.tok _, ⟨_, rfl⟩, q⟩
theorem mt_cntL (hu : X.A.units + 65 < cLine) : MtR X "list.count" (rCnt X.K false) := by
  intro pins s σ H x xs v us Q I rx rxs h
  obtain ⟨a, y, d, ds, rfl, rfl, hl, hy, sl, sd, q⟩ := h
  cases rx
  cases rxs with
  | cons ry rt =>
    rename_i uy ut
    cases rt
    obtain ⟨bs, r1⟩ := Dp.reads I d y uy hy ry
    have hl : Dp X.K H (V.ref a) (.list ds) := hl
    have hxs : PyData.canLayAll0 ds = true := SeqAt.canLay_of_shaped sl
    have hroom : X.A.units + 1 + min (PyData.depthAll ds) d.depth < cLine := room_in_shaped sd hu
    cases hl with
    | lst hs ha =>
      obtain ⟨its, rv, ⟨⟨cls, dd, data, sls⟩, n, ho, hc, hdn, hdt⟩, hlen⟩ := I.list hs
      simp only at hc hdt
      subst hc hdt
      obtain ⟨as, h4, hn, hmap⟩ := at_read I ha rv hxs
      refine call_meets PySem.F.slot_list_count ⟨_, ho, rfl⟩ PySem.F.entry_list_count (PySem.F.args_list_count_2 _ _)
        (SeqAt.list_countAt a its.toArray n dd sls uy (fun u => PyData.eqv (SeqAt.readOf s.heap u) d)) ⟨ho, SeqAt.items_eqAt (vs := its.toArray) (show ReadsAll s.heap its.toArray.toList ds as from h4) r1 hxs (SeqAt.canLay_of_shaped sd) hroom, ?_⟩
      refine ⟨.int _, H, I.tok _, ⟨_, rfl⟩, ?_⟩
      rw [← hmap, List.countP_map] at q
      exact q
theorem mt_cntT (hu : X.A.units + 65 < cLine) : MtR X "tuple.count" (rCnt X.K true) := by
  intro pins s σ H x xs v us Q I rx rxs h
  obtain ⟨a, y, d, ds, rfl, rfl, hl, hy, sl, sd, q⟩ := h
  cases rx
  cases rxs with
  | cons ry rt =>
    rename_i uy ut
    cases rt
    obtain ⟨bs, r1⟩ := Dp.reads I d y uy hy ry
    have hl : Dp X.K H (V.ref a) (.tuple ds) := hl
    have hxs : PyData.canLayAll0 ds = true := SeqAt.canLay_of_shaped sl
    have hroom : X.A.units + 1 + min (PyData.depthAll ds) d.depth < cLine := room_in_shaped sd hu
    cases hl with
    | tup hs ha =>
      obtain ⟨its, rv, p', hlen⟩ := I.tuple hs
      obtain ⟨⟨cls, dd, data, sls⟩, ho, hc, n, hdt⟩ := id p'
      simp only at hc hdt
      subst hc hdt
      obtain ⟨as, h4, hn, hmap⟩ := at_read I ha rv hxs
      refine call_meets PySem.F.slot_tuple_count ⟨_, ho, rfl⟩ PySem.F.entry_tuple_count (PySem.F.args_tuple_count_2 _ _)
        (SeqAt.tuple_countAt a its.toArray n dd sls uy (fun u => PyData.eqv (SeqAt.readOf s.heap u) d)) ⟨ho, SeqAt.items_eqAt (vs := its.toArray) (show ReadsAll s.heap its.toArray.toList ds as from h4) r1 hxs (SeqAt.canLay_of_shaped sd) hroom, ?_⟩
      refine ⟨.int _, H, I.tok _, ⟨_, rfl⟩, ?_⟩
      rw [← hmap, List.countP_map] at q
      exact q
end
/-! by data -/
def idxQ (w : W) (y : W) (Q : W → Prop) : Prop := ∃ ds d j, asQ w = some ds ∧ asD y = some d ∧ shAll ds ∧ shD d ∧ SeqAt.dataPlace ds d = some j ∧ Q (.d (.int (j : Nat)))
def cntQ (w : W) (y : W) (Q : W → Prop) : Prop := ∃ ds d, asQ w = some ds ∧ asD y = some d ∧ shAll ds ∧ shD d ∧ Q (.d (.int ((ds.countP fun z => PyData.eqv z d : Nat) : Int)))
@[irreducible] def idxR (w : W) (ws : List W) (Q : W → Prop) : Prop := ∃ y, ws = [y] ∧ idxQ w y Q
@[irreducible] def cntR (w : W) (ws : List W) (Q : W → Prop) : Prop := ∃ y, ws = [y] ∧ cntQ w y Q
def onQ (w : W) (p : Prop) : Prop := match asQ w with
  | some _ => p
  | none => False
def dBM (g : W → List W → (W → Prop) → Prop) (to : TEd) (t : TAd) : TEd := fun ρ Q => to ρ fun w => onQ w (t ρ fun ws => g w ws Q)
section
variable {X : Cx} {Z : Wish} {K : KW} {G0 H0 Hs G H : Hp} {σ : L2.St} {ρ : En} {v : V} {w : W}
theorem snd_bm2 {g : W → List W → (W → Prop) → Prop} {r : Bool → V → List V → Hp → VK → Prop} {uo : TE} {to : TEd} {us : TA} {ts : TAd} (s1 : Snd K Z uo to) (s2 : SndA K Z us ts)
    (hg : ∀ w ws Q, g w ws Q → ∃ y ds d, ws = [y] ∧ asQ w = some ds ∧ asD y = some d ∧ shAll ds ∧ shD d ∧ ∃ out, Q (.d out) ∧ (∀ G, ∃ x, Is K G x out ∧ ∀ tup (a : Addr) (vy : V) (H' : Hp) (Q' : VK), Dp K H' (.ref a) (plD tup ds) → Dp K H' vy d → SeqAt.shaped (plD tup ds) = true → SeqAt.shaped d = true → Q' x H' → r tup (.ref a) [vy] H' Q')) :
    Snd K Z (tBM2 K (r false) (r true) uo us) (dBM g to ts) := by
  intro G0 H0 G H σ ρ Q' Q E gd h k
  refine s1 G0 H0 G H σ ρ _ _ E gd h fun v w G1 H1 u1 r1 q1 => ?_
  have E1 := E.to u1
  have key : (∃ ys, w = .d (.tuple ys)) ∨ ∃ xs, asQ w = some xs ∧ asL w = some xs := by
    unfold onQ at q1
    split at q1
    · rename_i xs e
      cases w with
      | d y => cases y <;> first | exact .inr ⟨_, e, e⟩ | exact .inl ⟨_, rfl⟩
      | _ => exact .inr ⟨_, e, e⟩
    · exact q1.elim
  have q1 : ts ρ fun ws => g w ws Q' := by
    unfold onQ at q1
    split at q1
    · exact q1
    · exact q1.elim
  -- the receiver's kind does not depend on the arguments
  have body : ∀ tup, (∀ ds, asQ w = some ds → shAll ds → ∀ (G' H' : Hp), Up G1 H1 G' H' → (∃ a, v = .ref a) ∧ Dp K H' v (plD tup ds) ∧ SeqAt.shaped (plD tup ds) = true) → us σ H1 fun xs H2 => r tup v xs H2 Q := by
    intro tup hds
    refine s2 G0 H0 G1 H1 σ ρ _ _ E1 gd q1 fun vs ws G2 H2 u2 r2 q2 => ?_
    obtain ⟨y, ds, d, rfl, e1, e2, sh, sd, out, q, hx⟩ := hg _ _ _ q2
    obtain ⟨vy, rfl, ry⟩ := r2.one
    obtain ⟨⟨a, rfl⟩, dp, sp⟩ := hds ds e1 sh G2 H2 u2
    obtain ⟨x, ix, hr⟩ := hx G2
    have E2 := E1.to u2
    exact hr tup a vy H2 Q dp (ry.asD E2 e2 (shD_nd sd)) sp (shD_ok (ry.lay e2) sd) (k x (.d out) G2 H2 (u1.trans u2) ix q)
  rcases key with ⟨ys, rfl⟩ | ⟨xs, e0, e1⟩
  · have r' : Is K G1 v (.tuple ys) := r1
    obtain ⟨p, us', rfl, h1, hd, z, a⟩ := Is.inTD r'
    refine .inr ⟨⟨p, rfl, .inr ⟨rfl, ⟨us', E1.gh.sqT h1⟩, hd.up E1.gh⟩⟩, body true fun ds e sh G' H' u => ?_⟩
    cases e
    refine ⟨⟨p, rfl⟩, Is.dp (Is.up u.gh (Is.up u.g r')) (by show noDct (.tuple ys) = true; rw [noDct]; exact sh.1), ?_⟩
    unfold SeqAt.shaped plD
    rw [Bool.and_eq_true, decide_eq_true_eq]
    have := sh.2
    simp only [if_true, PyData.canLay0, PyData.depth]
    exact ⟨IsAll.lay a sh.1, by omega⟩
  · obtain ⟨p, us', rfl, h1, z, a⟩ := r1.asL E1 e1
    refine .inl ⟨⟨p, rfl, .inl ⟨rfl, us', h1⟩⟩, body false fun ds e sh G' H' u => ?_⟩
    rw [e0] at e; cases e
    refine ⟨⟨p, rfl⟩, Dp.lst (u.h.sqL h1) (IsAll.dp (IsAll.up u.gh (IsAll.up u.g a)) sh.1), ?_⟩
    unfold SeqAt.shaped plD
    rw [Bool.and_eq_true, decide_eq_true_eq]
    have := sh.2
    simp only [Bool.false_eq_true, if_false, PyData.canLay0, PyData.depth]
    exact ⟨IsAll.lay a sh.1, by omega⟩
theorem snd_index {uo : TE} {to : TEd} {us : TA} {ts : TAd} (s1 : Snd K Z uo to) (s2 : SndA K Z us ts) : Snd K Z (tBM2 K (rIdx K false) (rIdx K true) uo us) (dBM idxR to ts) :=
  snd_bm2 s1 s2 fun w ws Q h => by
    unfold idxR idxQ at h
    obtain ⟨y, rfl, ds, d, j, e1, e2, sh, sd, hp, q⟩ := h
    exact ⟨y, ds, d, rfl, e1, e2, sh, sd, _, q, fun G => ⟨_, .int _, fun tup a vy H' Q' d1 d2 s1 s2 q' => ⟨a, vy, d, ds, j, rfl, rfl, d1, d2, s1, s2, hp, q'⟩⟩⟩
theorem snd_count {uo : TE} {to : TEd} {us : TA} {ts : TAd} (s1 : Snd K Z uo to) (s2 : SndA K Z us ts) : Snd K Z (tBM2 K (rCnt K false) (rCnt K true) uo us) (dBM cntR to ts) :=
  snd_bm2 s1 s2 fun w ws Q h => by
    unfold cntR cntQ at h
    obtain ⟨y, rfl, ds, d, e1, e2, sh, sd, q⟩ := h
    exact ⟨y, ds, d, rfl, e1, e2, sh, sd, _, q, fun G => ⟨_, .int _, fun tup a vy H' Q' d1 d2 s1 s2 q' => ⟨a, vy, d, ds, rfl, rfl, d1, d2, s1, s2, q'⟩⟩⟩
section
variable {o e : Expr} {to : TEd} {t : TAd} {apos cpos : Pos}
theorem d_index (hu : X.A.units + 65 < cLine) (ho : PD X Z o to) (ha : PDA X Z [e] t)
    (hbase : attributeBase o "index" X.env (eval o X.env) = eval o X.env := by rfl)
    (hfew : ((backTo cpos (starEach [e] X.env)).all (fun x => !x.1) && (backToKw cpos (keywordEach [] X.env)).all (fun x => x.1.isSome) && decide ([e].length + ([] : List Keyword).length + (if ([] : List Keyword).isEmpty then 0 else 1) < 30)) = true := by rfl)
    (hline : (apos.endLine == cpos.line) = true := by rfl) (hs : starEach [e] X.env = (false, eval e X.env) :: starEach [] X.env := by rfl) (hplain : (backTo cpos (starEach [] X.env)).any (·.1) = false := by rfl) :
    PD X Z (.Call (.Attribute o "index" apos) [e] [] cpos) (dBM idxR to t) := by
  obtain ⟨uo, po, so⟩ := ho
  obtain ⟨ua, pa, sa⟩ := ha
  exact ⟨_, pe_bm2 PySem.F.slot_list_index PySem.F.slot_tuple_index PySem.F.type_list_index PySem.F.type_tuple_index (mt_idxL hu) (mt_idxT hu) po pa hbase hfew hline hs hplain, snd_index so sa⟩
theorem d_count (hu : X.A.units + 65 < cLine) (ho : PD X Z o to) (ha : PDA X Z [e] t)
    (hbase : attributeBase o "count" X.env (eval o X.env) = eval o X.env := by rfl)
    (hfew : ((backTo cpos (starEach [e] X.env)).all (fun x => !x.1) && (backToKw cpos (keywordEach [] X.env)).all (fun x => x.1.isSome) && decide ([e].length + ([] : List Keyword).length + (if ([] : List Keyword).isEmpty then 0 else 1) < 30)) = true := by rfl)
    (hline : (apos.endLine == cpos.line) = true := by rfl) (hs : starEach [e] X.env = (false, eval e X.env) :: starEach [] X.env := by rfl) (hplain : (backTo cpos (starEach [] X.env)).any (·.1) = false := by rfl) :
    PD X Z (.Call (.Attribute o "count" apos) [e] [] cpos) (dBM cntR to t) := by
  obtain ⟨uo, po, so⟩ := ho
  obtain ⟨ua, pa, sa⟩ := ha
  exact ⟨_, pe_bm2 PySem.F.slot_list_count PySem.F.slot_tuple_count PySem.F.type_list_count PySem.F.type_tuple_count (mt_cntL hu) (mt_cntT hu) po pa hbase hfew hline hs hplain, snd_count so sa⟩
end
end
/-! by type -/
/-- where it stands first -/
def ixF {α : Type} [DecidableEq α] (a : α) (xs : List α) : Nat := xs.idxOf a
def ctF {α : Type} [DecidableEq α] (a : α) (xs : List α) : Nat := xs.count a
theorem ixF_lt {α : Type} [DecidableEq α] {a : α} {xs : List α} (h : a ∈ xs) : ixF a xs < xs.length := List.idxOf_lt_length_iff.mpr h
theorem ixF_get {α : Type} [DecidableEq α] {a : α} {xs : List α} (h : a ∈ xs) : xs[ixF a xs]'(ixF_lt h) = a := List.getElem_idxOf (ixF_lt h)
theorem ixF_at {α : Type} [DecidableEq α] {xs : List α} (nd : xs.Nodup) {i : Nat} (h : i < xs.length) : ixF xs[i] xs = i := by
  have h2 := ixF_get (List.getElem_mem h)
  exact (List.getElem_inj nd).mp h2
theorem ixF_inj {α : Type} [DecidableEq α] {a b : α} {xs : List α} (ha : a ∈ xs) (hb : b ∈ xs) (e : ixF a xs = ixF b xs) : a = b := by
  rw [← ixF_get ha, ← ixF_get hb]; congr 1
section
variable {α : Type} [DecidableEq α] [Enc α]
theorem place_enc {a : α} : ∀ {xs : List α}, a ∈ xs → SeqAt.dataPlace (xs.map Enc.d) (Enc.d a) = some (ixF a xs)
  | [], h => by cases h
  | x :: xs, h => by
    unfold SeqAt.dataPlace
    unfold ixF
    rw [List.map_cons, List.findIdx?_cons, Enc.eqv, List.idxOf_cons]
    by_cases e : x = a
    · subst e; simp
    · have hm : a ∈ xs := by
        rcases List.mem_cons.mp h with z | z
        · exact absurd z.symm e
        · exact z
      have ih := place_enc hm
      unfold SeqAt.dataPlace ixF at ih
      have e2 : (x == a) = false := by simpa using e
      rw [decide_eq_false e, ih, e2]
      simp
theorem count_enc (a : α) (xs : List α) : ((xs.map Enc.d).countP fun z => PyData.eqv z (Enc.d a)) = ctF a xs := by
  unfold ctF
  rw [List.countP_map, List.count]
  congr 1
  funext x
  show PyData.eqv (Enc.d x) (Enc.d a) = _
  rw [Enc.eqv]
  rfl
theorem idxR_enc {w : W} {a : α} {xs : List α} {Q : W → Prop} (e : asQ w = some (xs.map Enc.d)) (ha : a ∈ xs) (h : Q (.d (.int (ixF a xs : Nat)))) (hl : Enc.lvl α ≤ 63 := by decide) : idxR w [.d (Enc.d a)] Q := by
  unfold idxR idxQ
  exact ⟨_, rfl, _, _, _, e, rfl, shAll_map xs hl, shD_enc a (by omega), place_enc ha, h⟩
theorem cntR_enc {w : W} {a : α} {xs : List α} {Q : W → Prop} (e : asQ w = some (xs.map Enc.d)) (h : Q (.d (.int (ctF a xs : Nat)))) (hl : Enc.lvl α ≤ 63 := by decide) : cntR w [.d (Enc.d a)] Q := by
  unfold cntR cntQ
  refine ⟨_, rfl, _, _, e, rfl, shAll_map xs hl, shD_enc a (by omega), ?_⟩
  rw [count_enc]; exact h
end
/-! ### what stands while it is walked -/
section
variable {K : KW} {G0 H0 G H G1 H1 : Hp} {σ : L2.St} {ρ : En} {v : V} {w : W} {lc : Bool}
def okSeq (lc : Bool) : W → Bool
  | .r _ => lc
  | _ => true
theorem stand_at {xs : List PyData} (E1 : DEnv K G0 H0 G1 H1 σ ρ) (u1 : Up G H G1 H1) (r1 : RR K H0 H G1 H1 v w) (e : asQ w = some xs) (ok : okSeq lc w = true) :
    ∃ p vs G', v = .ref p ∧ Up G H G' H1 ∧ IsAll K G' vs xs ∧ xs.length ≤ sizeLine ∧
      ((SqL K H1 p vs ∧ ∀ G2 H2, Ex G' G2 → Ex G2 H2 → Ex (if lc then H1 else H0) H2 → SqL K H2 p vs) ∨ (SqT K H1 p vs ∧ ∀ G2 H2, Ex G' G2 → Ex G2 H2 → Ex (if lc then H1 else H0) H2 → SqT K H2 p vs)) := by
  cases w with
  | d y =>
    cases y with
    | tuple ys =>
      cases e
      obtain ⟨p, vs, rfl, h1, z, a⟩ := Is.inT r1
      exact ⟨p, vs, G1, rfl, u1, a, z, .inr ⟨u1.gh.sqT h1, fun G2 H2 e1 e2 _ => e2.sqT (e1.sqT h1)⟩⟩
    | list ys =>
      cases e
      cases r1 with | lst hs z ha =>
      exact ⟨_, _, G1, rfl, u1, ha, z, .inl ⟨SqL.of (u1.gh _ _ hs), fun G2 H2 e1 e2 _ => SqL.of (e2 _ _ (e1 _ _ hs))⟩⟩
    | _ => cases e
  | l ys =>
    cases e
    obtain ⟨p, vs, rfl, h1, h2, _, h3, z, a⟩ := r1
    refine ⟨p, vs, frzAll H G1 H1, rfl, frzAll_up u1, a.up (frzAll_ex (Hs := H) u1.gh), z, .inl ⟨SqL.of h3, fun G2 H2 e1 e2 _ => SqL.of (e2 _ _ (e1 _ _ (by rw [frzAll_new h1]; exact h3)))⟩⟩
  | b ys =>
    cases e
    obtain ⟨p, vs, rfl, h1, z, a⟩ := r1
    refine ⟨p, vs, G1, rfl, u1, a, z, .inl ⟨E1.up.h.sqL h1, fun G2 H2 _ _ e3 => ?_⟩⟩
    cases lc with
    | true => exact e3.sqL (E1.up.h.sqL h1)
    | false => exact e3.sqL h1
  | r ys =>
    cases e
    have hl : lc = true := ok
    subst hl
    obtain ⟨p, vs, rfl, h1, z, a⟩ := r1
    exact ⟨p, vs, G1, rfl, u1, a, z, .inl ⟨SqL.of h1, fun G2 H2 _ _ e3 => SqL.of (e3 _ _ h1)⟩⟩
  | drw => cases e
  | x y => cases e
theorem rev_at {α : Type} {xs : List α} {i : Nat} (h : i < xs.length) : xs.reverse[i]? = xs[xs.length - 1 - i]? := List.getElem?_reverse h
theorem itOk_rl {Hb : Hp} {a : Addr} {vs : List V} {ds : List PyData} (h : ∀ G2 H2, Ex G G2 → Ex G2 H2 → Ex Hb H2 → SqL K H2 a vs) (al : IsAll K G vs ds) : ItOk K G Hb (Itv K a vs.length) ds.reverse := by
  intro G' H' e1 e2 e3 i
  have hs := h G' H' e1 e2 e3
  have hl := al.len
  refine ⟨fun d hd => ?_, fun hi => ?_⟩
  · have hi : i < ds.length := by
      have := (List.getElem?_eq_some_iff.mp hd).1
      rwa [List.length_reverse] at this
    rw [rev_at hi] at hd
    obtain ⟨v, hv, iv⟩ := al.get hd
    rw [← hl] at hv
    refine ⟨⟨by omega, vs, v, hs, hv⟩, fun x H'' y => ?_⟩
    obtain ⟨rfl, y⟩ := y
    have := y vs hs
    rw [hv] at this; cases this
    exact ⟨G', Up.refl e2, iv.up e1⟩
  · rw [List.length_reverse] at hi
    show vs.length ≤ i
    omega
theorem itOk_rt {Hb : Hp} {a : Addr} {vs : List V} {ds : List PyData} (h : ∀ G2 H2, Ex G G2 → Ex G2 H2 → Ex Hb H2 → SqT K H2 a vs) (al : IsAll K G vs ds) : ItOk K G Hb (ItvT K a vs.length) ds.reverse := by
  intro G' H' e1 e2 e3 i
  have hs := h G' H' e1 e2 e3
  have hl := al.len
  refine ⟨fun d hd => ?_, fun hi => ?_⟩
  · have hi : i < ds.length := by
      have := (List.getElem?_eq_some_iff.mp hd).1
      rwa [List.length_reverse] at this
    rw [rev_at hi] at hd
    obtain ⟨v, hv, iv⟩ := al.get hd
    rw [← hl] at hv
    refine ⟨⟨by omega, vs, v, hs, hv⟩, fun x H'' y => ?_⟩
    obtain ⟨rfl, y⟩ := y
    have := y vs hs
    rw [hv] at this; cases this
    exact ⟨G', Up.refl e2, iv.up e1⟩
  · rw [List.length_reverse] at hi
    show vs.length ≤ i
    omega
end
/-- for x in reversed(e) -/
def dRevI (lc : Bool) (t : TEd) : TId := fun ρ Q => t ρ fun w => match asQ w with
  | some xs => onOk (okSeq lc w) (Q xs.reverse)
  | none => False
theorem di_rev {X : Cx} {Z : Wish} {lc : Bool} {tg e : Expr} {te : TEd} {p pos : Pos} (hm : X.mg "reversed" = none) (h : PD X Z e te) (hg : Gl X "reversed" := by rfl) (hs : starEach [e] X.env = (false, eval e X.env) :: starEach [] X.env := by rfl) :
    PDI lc X Z tg (.Call (.Name "reversed" p) [e] [] pos) (dRevI lc te) := by
  obtain ⟨ue, pu, s⟩ := h
  refine ⟨_, pi_revA hg hm pu hs, fun G0 H0 G H σ ρ Q' R E gd hh k => ?_⟩
  refine s G0 H0 G H σ ρ _ _ E gd hh fun v w G1 H1 u1 r1 q1 => ?_
  split at q1
  · rename_i xs e1
    obtain ⟨ok, q⟩ := onOk_of q1
    obtain ⟨a, vs, G', rfl, u2, al, z, hst⟩ := stand_at (E.to u1) u1 r1 e1 ok
    refine ⟨a, vs, rfl, ?_⟩
    rcases hst with ⟨hq, hk⟩ | ⟨hq, hk⟩
    · exact .inl ⟨hq, k _ G' H1 _ u2 (itOk_rl hk al) (by rw [List.length_reverse]; exact z) q⟩
    · exact .inr ⟨hq, k _ G' H1 _ u2 (itOk_rt hk al) (by rw [List.length_reverse]; exact z) q⟩
  · exact q1.elim
/-! ### min(a, b), max(a, b) of ints -/
def gMin2 (ws : List W) (Q : W → Prop) : Prop := match ws with
  | [.d (.int i), .d (.int j)] => Q (.d (.int (min i j)))
  | _ => False
def gMax2 (ws : List W) (Q : W → Prop) : Prop := match ws with
  | [.d (.int i), .d (.int j)] => Q (.d (.int (max i j)))
  | _ => False
theorem cd_min2 {K : KW} : CallD K (fun xs H Q => ∃ i j, xs = [.int i, .int j] ∧ Q (.int (if j < i then j else i)) H) gMin2 := by
  intro G0 H0 Hx G H σ ρ vs ws Q' Q E r q k
  unfold gMin2 at q
  split at q
  · rename_i i j
    obtain ⟨v1, v2, rfl, ra, rb⟩ := r.two
    cases ra; cases rb
    refine ⟨i, j, rfl, ?_⟩
    have e : (if j < i then j else i) = min i j := by rw [Int.min_def]; split <;> split <;> omega
    rw [e]
    exact k _ (.d (.int _)) G H (Up.refl E.gh) (.int _) q
  · exact q.elim
theorem cd_max2 {K : KW} : CallD K (fun xs H Q => ∃ i j, xs = [.int i, .int j] ∧ Q (.int (if j > i then j else i)) H) gMax2 := by
  intro G0 H0 Hx G H σ ρ vs ws Q' Q E r q k
  unfold gMax2 at q
  split at q
  · rename_i i j
    obtain ⟨v1, v2, rfl, ra, rb⟩ := r.two
    cases ra; cases rb
    refine ⟨i, j, rfl, ?_⟩
    have e : (if j > i then j else i) = max i j := by rw [Int.max_def]; split <;> split <;> omega
    rw [e]
    exact k _ (.d (.int _)) G H (Up.refl E.gh) (.int _) q
  · exact q.elim
/-! ### y = xs.pop(i) -/
section
variable {X : Cx} {Z : Wish} {K : KW} {a : Expr} {pos : Pos}
def sPopV (i j : Nat) (u : TAd) : TSd := fun D ρ => onL ρ j fun xs => u ρ fun ws => match ws with
  | [.d (.int n)] => 0 ≤ n ∧ ∃ d, atI xs n = some d ∧ D.nx ((ρ.set j (some (.l (xs.eraseIdx n.toNat)))).set i (some (.d d)))
  | _ => False
theorem snd_popV {i j : Nat} {us : TA} {u : TAd} (s1 : SndA K Z us u) : SndS K Z (tAsg (tBM K "list" rPopAt (tVar j) us) (gName i)) (sPopV i j u) := by
  intro G0 H0 G H σ ρ D' D E gd h n r b c
  obtain ⟨xs, e1, h⟩ := onL_of h
  obtain ⟨p, vs, hp, hv, z, al⟩ := own_at E e1
  refine ⟨.ref p, hp, .inl ⟨rfl, vs, SqL.of hv⟩, ?_⟩
  refine s1 G0 H0 G H σ ρ _ _ E gd h fun as ws G1 H1 u1 r1 q1 => ?_
  split at q1
  · rename_i m
    obtain ⟨v1, rfl, ra⟩ := r1.one
    cases ra
    obtain ⟨z0, d, hd, q⟩ := q1
    obtain ⟨q0, rfl⟩ := Int.eq_ofNat_of_zero_le z0
    have uf := frzAll_up u1
    have hl := al.len
    have szl : (sizeLine : Nat) = 16777216 := sizeLine_eq
    have hd2 : xs[q0]? = some d := by
      unfold atI at hd
      cases hx : ixN xs.length (q0 : Int) with
      | none => rw [hx] at hd; cases hd
      | some j2 =>
        rw [hx] at hd
        have e3 : j2 = q0 := by
          unfold ixN at hx
          rw [if_pos (by omega)] at hx
          split at hx
          · have := Option.some.inj hx; omega
          · cases hx
        subst e3
        exact hd
    have hj : q0 < xs.length := (List.getElem?_eq_some_iff.mp hd2).1
    obtain ⟨y, hy, iy⟩ := al.get hd2
    refine ⟨p, vs, (q0 : Int), q0, y, rfl, rfl, u1.h _ _ hv, by omega, by omega, ?_, hy, ?_⟩
    · unfold seqIndex?
      have e0 : ¬ (q0 : Int) < 0 := by omega
      simp only [if_neg e0]
      have e2 : (0 : Int) ≤ q0 := by omega
      have e3 : (q0 : Int) < (vs.length : Int) := by omega
      simp [e2, e3]
    · have E2 := (E.to uf).mut (gx_some e1) hp (Nat.le_trans (List.length_eraseIdx_le ..) z) ((al.up uf.g).eraseAt q0)
      have iy2 := iy.up (u1.g.trans (frzAll_ex (Hs := H) u1.gh))
      refine n _ _ _ _ (E2.setA E2 (Up.refl E2.gh) i (w := .d d) ?_ ⟨(fun _ z => nomatch z), (fun _ z => nomatch z), fun _ z => nomatch z⟩) q
      exact iy2
  · exact q1.elim
theorem ds_popV {i : Nat} (j : Nat) {u : TAd} {x y : Str} {pn apos cpos py : Pos} (hn : X.N.Nodup) (hu : PDA X Z [a] u) (hy : X.N[i]? = some y := by rfl) (hl : Loc X.env.scope y := by first | exact Or.inl rfl | exact Or.inr rfl) (hN : X.N[j]? = some x := by rfl) (hv : Vis X.env.scope x := by first | exact Or.inl rfl | exact Or.inr (Or.inl rfl) | exact Or.inr (Or.inr rfl)) (hd : (x == ("__debug__" : Str)) = false := by decide) (hcd : (x == ("__classdict__" : Str)) = false := by decide)
    (hbase : attributeBase (.Name x pn) "pop" X.env (eval (.Name x pn) X.env) = eval (.Name x pn) X.env := by rfl)
    (hfew : ((backTo cpos (starEach [a] X.env)).all (fun x => !x.1) && (backToKw cpos (keywordEach [] X.env)).all (fun x => x.1.isSome) && decide ([a].length + ([] : List Keyword).length + (if ([] : List Keyword).isEmpty then 0 else 1) < 30)) = true := by rfl)
    (hline : (apos.endLine == cpos.line) = true := by rfl) (hst : starEach [a] X.env = (false, eval a X.env) :: starEach [] X.env := by rfl) (hplain : (backTo cpos (starEach [] X.env)).any (·.1) = false := by rfl)
    (hs : swapsWith (.Call (.Attribute (.Name x pn) "pop" apos) [a] [] cpos) (some (.Name y py)) pos.line X.env = pure false := by rfl) (hf : X.fn y = true ∨ X.env.scope.names.lookup y = some .local := by first | exact .inl rfl | exact .inr rfl | assumption) :
    PDS X Z (.Assign [.Name y py] (.Call (.Attribute (.Name x pn) "pop" apos) [a] [] cpos) pos) (sPopV i j u) := by
  obtain ⟨t1, p1, s1⟩ := hu
  exact ⟨_, ps_set hn hy hl (pe_bm PySem.F.plainAttrs_list PySem.F.slot_list_pop PySem.F.type_list_pop mt_popAt (pe_var hN hv hd hcd) p1 hbase hfew hline hst hplain) hs hf, snd_popV s1⟩
end
end DL

/-! DL25: plain law of mendings and their numbers. -/
namespace DL
open PySem PySem.Spec PyProof.Rows L2
theorem snocInd {α : Type} {P : List α → Prop} (h0 : P []) (h1 : ∀ xs x, P xs → P (xs ++ [x])) : ∀ xs, P xs := fun xs => by
  have : ∀ ys : List α, P ys.reverse := fun ys => by
    induction ys with
    | nil => exact h0
    | cons y ys ih => rw [List.reverse_cons]; exact h1 _ _ ih
  have h := this xs.reverse
  rwa [List.reverse_reverse] at h
/-! ### the facts of blocks -/
def factsB (b : Block) : List Fact := b.c.map fun r => (b.a, r)
def allF (bs : List Block) : List Fact := bs.flatMap factsB
theorem allF_snoc (bs : List Block) (b : Block) : allF (bs ++ [b]) = allF bs ++ factsB b := by unfold allF; rw [List.flatMap_append]; simp
theorem runs_all (ts : List Tb) (fs : List Fact) : allF (runsF ts fs) = fs := by
  have : ∀ (fs : List Fact) (acc : List Block), allF (fs.foldl (runStep ts) acc) = allF acc ++ fs := by
    intro fs
    induction fs with
    | nil => intro acc; simp
    | cons f fs ih =>
      intro acc
      rw [List.foldl_cons, ih]
      have e : allF (runStep ts acc f) = allF acc ++ [f] := by
        rcases List.eq_nil_or_concat acc with e | ⟨acc', b, e⟩
        · subst e; rfl
        · rw [List.concat_eq_append] at e; subst e
          by_cases h : b.a = f.1 ∧ b.b = keyF ts f
          · rw [runStep_yes h, allF_snoc, allF_snoc, List.append_assoc]
            congr 1
            unfold factsB
            rw [List.map_append, h.1]; rfl
          · rw [runStep_no h, allF_snoc]; rfl
      rw [e, List.append_assoc]; rfl
  exact this fs []
theorem blocks_all {ts : List Tb} {fs : List Fact} (ha : Asc fs) (ht : ∀ f ∈ fs, hasT ts f) : allF (blocksG ts fs) = fs := by rw [← runs_blocks ha ht]; exact runs_all ts fs
theorem nodup_of_map {α β : Type} {f : α → β} {xs : List α} (h : (xs.map f).Nodup) : xs.Nodup := by
  unfold List.Nodup at h ⊢
  rw [List.pairwise_map] at h
  exact h.imp fun {a b} z e => z (by rw [e])
theorem allF_part {bs : List Block} {b : Block} (h : b ∈ bs) : ∃ l r, allF bs = l ++ factsB b ++ r := by
  obtain ⟨l, r, rfl⟩ := List.append_of_mem h
  refine ⟨allF l, allF r, ?_⟩
  unfold allF
  rw [List.flatMap_append, List.flatMap_cons, List.append_assoc]
theorem blocks_nodup {ts : List Tb} {fs : List Fact} (ha : Asc fs) (ht : ∀ f ∈ fs, hasT ts f) : ∀ b ∈ blocksG ts fs, b.c.Nodup := fun b hb => by
  obtain ⟨l, r, e⟩ := allF_part hb
  have n := ha.nodup
  rw [← blocks_all ha ht, e] at n
  have n2 := (List.nodup_append.mp (List.nodup_append.mp n).1).2.1
  exact nodup_of_map n2
/-- what blocks are like -/
def BOk (bs : List Block) : Prop := ∀ b ∈ bs, b.c ≠ [] ∧ b.c.Nodup
theorem blocks_bok {ts : List Tb} {fs : List Fact} (ha : Asc fs) (ht : ∀ f ∈ fs, hasT ts f) : BOk (blocksG ts fs) := fun b hb => ⟨blocks_ne ts fs b hb, blocks_nodup ha ht b hb⟩
theorem BOk.left {a b : List Block} (h : BOk (a ++ b)) : BOk a := fun x hx => h x (List.mem_append_left _ hx)
theorem BOk.last {a : List Block} {b : Block} (h : BOk (a ++ [b])) : b.c ≠ [] ∧ b.c.Nodup := h b (by simp)
/-! ### their product -/
theorem prodF_pos : ∀ {bs : List Block}, BOk bs → 0 < prodF bs := fun {bs} => by
  refine snocInd (P := fun bs => BOk bs → 0 < prodF bs) (fun _ => by decide) (fun bs b ih h => ?_) bs
  rw [prodF_snoc]
  have h1 := ih h.left
  have h2 : (0 : Int) < (b.c.length : Int) := by have := List.length_pos_iff.mpr h.last.1; omega
  exact Int.mul_pos h1 h2
theorem prodF_append (a : List Block) : ∀ b : List Block, prodF (a ++ b) = prodF a * prodF b := by
  refine snocInd ?_ fun bs b ih => ?_
  · rw [List.append_nil, show prodF [] = 1 from rfl, Int.mul_one]
  · rw [← List.append_assoc, prodF_snoc, prodF_snoc, ih, Int.mul_assoc]
theorem prodF_cons (b : Block) (bs : List Block) : prodF (b :: bs) = (b.c.length : Int) * prodF bs := by
  rw [show b :: bs = [b] ++ bs from rfl, prodF_append]
  congr 1
  show (1 : Int) * _ = _
  rw [Int.one_mul]
/-! ### mendings -/
abbrev MP : Block → Fact → Prop := fun b m => m.1 = b.a ∧ m.2 ∈ b.c
theorem Each.mend {bs : List Block} {ms : List Fact} (h : Each MP bs ms) : isMend bs ms = true := isMend_of h
theorem mend_each : ∀ {bs : List Block} {ms : List Fact}, isMend bs ms = true → Each MP bs ms
  | [], [], _ => .nil
  | [], m :: ms, h => by have := (isMend_iff.mp h).1; simp at this
  | b :: bs, [], h => by have := (isMend_iff.mp h).1; simp at this
  | b :: bs, m :: ms, h => by
    unfold isMend at h
    rw [List.zip_cons_cons, List.all_cons, Bool.and_eq_true, decide_eq_true_eq, Bool.and_eq_true, Bool.and_eq_true, decide_eq_true_eq, memT_iff] at h
    refine .cons h.2.1 (mend_each ?_)
    unfold isMend
    rw [Bool.and_eq_true, decide_eq_true_eq]
    have := h.1
    simp only [List.length_cons] at this
    exact ⟨by omega, h.2.2⟩
theorem Each.snoc_inv {α β : Type} {P : α → β → Prop} {b : α} : ∀ {as : List α} {ms : List β}, Each P (as ++ [b]) ms → ∃ ms' m, ms = ms' ++ [m] ∧ Each P as ms' ∧ P b m
  | [], _, .cons h .nil => ⟨[], _, rfl, .nil, h⟩
  | a :: as, _, .cons h t => by
    obtain ⟨ms', m, rfl, h1, h2⟩ := Each.snoc_inv t
    exact ⟨_ :: ms', m, rfl, .cons h h1, h2⟩
theorem Each.at {α β : Type} {P : α → β → Prop} : ∀ {as : List α} {bs : List β}, Each P as bs → ∀ (j : Nat) (h1 : j < as.length) (h2 : j < bs.length), P as[j] bs[j]
  | _, _, .cons h t, 0, _, _ => h
  | _, _, .cons h t, j + 1, h1, h2 => Each.at t j (by simpa using h1) (by simpa using h2)
theorem Each.append {α β : Type} {P : α → β → Prop} {as' : List α} {bs' : List β} : ∀ {as : List α} {bs : List β}, Each P as bs → Each P as' bs' → Each P (as ++ as') (bs ++ bs')
  | _, _, .nil, h => h
  | _, _, .cons a t, h => .cons a (Each.append t h)
theorem Each.take {α β : Type} {P : α → β → Prop} : ∀ (k : Nat) {as : List α} {bs : List β}, Each P as bs → Each P (as.take k) (bs.take k)
  | 0, _, _, _ => by simp; exact .nil
  | k + 1, _, _, .nil => .nil
  | k + 1, _, _, .cons a t => .cons a (Each.take k t)
theorem Each.drop {α β : Type} {P : α → β → Prop} : ∀ (k : Nat) {as : List α} {bs : List β}, Each P as bs → Each P (as.drop k) (bs.drop k)
  | 0, _, _, h => h
  | k + 1, _, _, .nil => .nil
  | k + 1, _, _, .cons a t => Each.drop k t
theorem Each.set {α β : Type} {P : α → β → Prop} {y : β} : ∀ (k : Nat) {as : List α} {bs : List β}, Each P as bs → (∀ h : k < as.length, P as[k] y) → Each P as (bs.set k y)
  | _, _, _, .nil, _ => .nil
  | 0, _, _, .cons a t, h => .cons (h (by simp)) t
  | k + 1, _, _, .cons a t, h => .cons a (Each.set k t fun z => h (by simpa using z))
/-- the mending with the number n: its rows from the last block on, what is left of n -/
def mendI : List Block → Int → List Fact × Int
  | [], n => ([], n)
  | b :: bs, n => ((b.a, b.c.getD ((mendI bs n).2 % (b.c.length : Int)).toNat []) :: (mendI bs n).1, (mendI bs n).2 / (b.c.length : Int))
def mendF (bs : List Block) (n : Int) : List Fact := (mendI bs n).1
theorem mendI_snoc (b : Block) (n : Int) : ∀ bs : List Block, mendI (bs ++ [b]) n = ((mendI bs (n / (b.c.length : Int))).1 ++ [(b.a, b.c.getD (n % (b.c.length : Int)).toNat [])], (mendI bs (n / (b.c.length : Int))).2)
  | [] => rfl
  | a :: bs => by rw [List.cons_append, mendI, mendI_snoc b n bs]; rfl
theorem mendF_snoc (bs : List Block) (b : Block) (n : Int) : mendF (bs ++ [b]) n = mendF bs (n / (b.c.length : Int)) ++ [(b.a, b.c.getD (n % (b.c.length : Int)).toNat [])] := by
  unfold mendF; rw [mendI_snoc]
theorem digit {xs : List VRow} (h : xs ≠ []) (n : Int) : (n % (xs.length : Int)).toNat < xs.length ∧ ((n % (xs.length : Int)).toNat : Int) = n % (xs.length : Int) := by
  have h2 : (0 : Int) < (xs.length : Int) := by have := List.length_pos_iff.mpr h; omega
  have a := Int.emod_nonneg n (show (xs.length : Int) ≠ 0 by omega)
  have b := Int.emod_lt_of_pos n h2
  omega
theorem getD_mem {xs : List VRow} {i : Nat} (h : i < xs.length) : xs.getD i [] ∈ xs ∧ xs.getD i [] = xs[i] := by
  have e : xs.getD i [] = xs[i] := by rw [List.getD_eq_getElem?_getD, List.getElem?_eq_getElem h]; rfl
  exact ⟨by rw [e]; exact List.getElem_mem h, e⟩
theorem mend_ok : ∀ {bs : List Block}, BOk bs → ∀ n, Each MP bs (mendF bs n) := fun {bs} => by
  refine snocInd (P := fun bs => BOk bs → ∀ n, Each MP bs (mendF bs n)) (fun _ _ => .nil) (fun bs b ih h n => ?_) bs
  rw [mendF_snoc]
  exact .snoc ⟨rfl, (getD_mem (digit h.last.1 n).1).1⟩ (ih h.left _)
/-- the number of a mending -/
def numF (bs : List Block) (ms : List Fact) : Int := (ms.zip bs).foldl (fun n p => n * (p.2.c.length : Int) + (ixF p.1.2 p.2.c : Nat)) 0
theorem numF_snoc {bs : List Block} {ms : List Fact} {b : Block} {m : Fact} (h : ms.length = bs.length) : numF (bs ++ [b]) (ms ++ [m]) = numF bs ms * (b.c.length : Int) + (ixF m.2 b.c : Nat) := by
  unfold numF
  rw [List.zip_append h, List.foldl_append]; rfl
theorem num_mend : ∀ {bs : List Block}, BOk bs → ∀ n, 0 ≤ n → n < prodF bs → numF bs (mendF bs n) = n := fun {bs} => by
  refine snocInd (P := fun bs => BOk bs → ∀ n, 0 ≤ n → n < prodF bs → numF bs (mendF bs n) = n) (fun _ n h0 h1 => ?_) (fun bs b ih h n h0 h1 => ?_) bs
  · have : prodF [] = 1 := rfl
    show (0 : Int) = n
    omega
  · have hl : (0 : Int) < (b.c.length : Int) := by have := List.length_pos_iff.mpr h.last.1; omega
    rw [prodF_snoc] at h1
    have q := ih h.left (n / (b.c.length : Int)) (Int.ediv_nonneg h0 (by omega)) (Int.ediv_lt_of_lt_mul hl h1)
    obtain ⟨d1, d2⟩ := digit h.last.1 n
    rw [mendF_snoc, numF_snoc (mend_ok h.left _).len.symm, q, (getD_mem d1).2, ixF_at h.last.2 d1, d2]
    exact Int.ediv_mul_add_emod n _
theorem num_lt {bs : List Block} {ms : List Fact} (hb : BOk bs) (h : Each MP bs ms) : 0 ≤ numF bs ms ∧ numF bs ms < prodF bs ∧ mendF bs (numF bs ms) = ms := by
  revert ms
  refine snocInd (P := fun bs => BOk bs → ∀ {ms : List Fact}, Each MP bs ms → 0 ≤ numF bs ms ∧ numF bs ms < prodF bs ∧ mendF bs (numF bs ms) = ms) (fun _ ms h => ?_) (fun bs b ih hb ms h => ?_) bs hb
  · cases h; exact ⟨Int.le_refl _, by decide, rfl⟩
  · obtain ⟨ms', m, rfl, h1, h2⟩ := h.snoc_inv
    obtain ⟨a, c, d⟩ := ih hb.left h1
    have i1 := ixF_lt h2.2
    have hl : (0 : Int) < (b.c.length : Int) := by omega
    have i0 : (0 : Int) ≤ (ixF m.2 b.c : Nat) := Int.natCast_nonneg _
    have i2 : ((ixF m.2 b.c : Nat) : Int) < (b.c.length : Int) := by omega
    rw [numF_snoc h1.len.symm, prodF_snoc]
    have e1 : (numF bs ms' * (b.c.length : Int) + (ixF m.2 b.c : Nat)) / (b.c.length : Int) = numF bs ms' := by
      rw [Int.add_comm, Int.add_mul_ediv_right _ _ (by omega), Int.ediv_eq_zero_of_lt i0 i2, Int.zero_add]
    have e2 : (numF bs ms' * (b.c.length : Int) + (ixF m.2 b.c : Nat)) % (b.c.length : Int) = (ixF m.2 b.c : Nat) := by
      rw [Int.add_comm, Int.add_mul_emod_self_right, Int.emod_eq_of_lt i0 i2]
    refine ⟨?_, ?_, ?_⟩
    · have := Int.mul_nonneg a (Int.le_of_lt hl)
      omega
    · have : (numF bs ms' + 1) * (b.c.length : Int) ≤ prodF bs * (b.c.length : Int) := Int.mul_le_mul_of_nonneg_right (by omega) (by omega)
      rw [Int.add_mul, Int.one_mul] at this
      omega
    · rw [mendF_snoc, e1, e2, d, Int.toNat_natCast, (getD_mem i1).2, ixF_get h2.2]
      congr 1
      rw [← h2.1]
/-! ### all of them in order -/
def growM (found : List (List Fact)) (b : Block) : List (List Fact) := found.flatMap fun m => b.c.map fun r => m ++ [(b.a, r)]
def mendsF (bs : List Block) : List (List Fact) := bs.foldl growM [[]]
theorem mendsF_snoc (bs : List Block) (b : Block) : mendsF (bs ++ [b]) = growM (mendsF bs) b := by unfold mendsF; rw [List.foldl_append]; rfl
theorem flat_at {α β : Type} {f : α → List β} {L : Nat} (h0 : 0 < L) : ∀ {xs : List α}, (∀ a ∈ xs, (f a).length = L) → (xs.flatMap f).length = xs.length * L ∧ ∀ (i : Nat) (h : i / L < xs.length), (xs.flatMap f)[i]? = (f xs[i / L])[i % L]?
  | [], _ => ⟨by simp, fun i h => absurd h (by simp)⟩
  | a :: xs, hL => by
    obtain ⟨h1, h2⟩ := flat_at (f := f) h0 (xs := xs) fun b hb => hL b (List.mem_cons_of_mem _ hb)
    have la := hL a (by simp)
    refine ⟨by rw [List.flatMap_cons, List.length_append, h1, la, List.length_cons, Nat.add_mul, Nat.one_mul, Nat.add_comm], fun i h => ?_⟩
    rw [List.flatMap_cons]
    by_cases hi : i < L
    · have e0 : i / L = 0 := Nat.div_eq_of_lt hi
      have e1 : i % L = i := Nat.mod_eq_of_lt hi
      rw [List.getElem?_append_left (by omega), e1]
      congr 2
      simp [e0]
    · have e0 : i / L = (i - L) / L + 1 := by
        rw [← Nat.sub_add_cancel (show L ≤ i by omega), Nat.add_div_right _ h0]; simp
      have e1 : i % L = (i - L) % L := by
        conv => lhs; rw [← Nat.sub_add_cancel (show L ≤ i by omega), Nat.add_mod_right]
      rw [List.getElem?_append_right (by omega), la, e1, h2 (i - L) (by rw [e0, List.length_cons] at h; omega)]
      congr 2
      simp [e0]
theorem mends_at : ∀ {bs : List Block}, BOk bs → ((mendsF bs).length : Int) = prodF bs ∧ ∀ i, i < (mendsF bs).length → (mendsF bs)[i]? = some (mendF bs (i : Int)) := fun {bs} => by
  refine snocInd (P := fun bs => BOk bs → ((mendsF bs).length : Int) = prodF bs ∧ ∀ i, i < (mendsF bs).length → (mendsF bs)[i]? = some (mendF bs (i : Int))) (fun _ => ⟨rfl, fun i h => ?_⟩) (fun bs b ih hb => ?_) bs
  · have : i = 0 := by
      have h : i < 1 := h
      omega
    subst this; rfl
  · obtain ⟨a, c⟩ := ih hb.left
    have hl := List.length_pos_iff.mpr hb.last.1
    rw [mendsF_snoc]
    unfold growM
    obtain ⟨f1, f2⟩ := flat_at (f := fun m => b.c.map fun r => m ++ [(b.a, r)]) hl (xs := mendsF bs) fun m _ => List.length_map ..
    refine ⟨by rw [f1, prodF_snoc, ← a, Int.natCast_mul], fun i hi => ?_⟩
    rw [f1] at hi
    have q : i / b.c.length < (mendsF bs).length := Nat.div_lt_of_lt_mul (by rw [Nat.mul_comm]; exact hi)
    rw [f2 i q, mendF_snoc]
    have hm := Nat.mod_lt i hl
    have e1 := c _ q
    rw [List.getElem?_eq_getElem q] at e1
    have e2 := Option.some.inj e1
    rw [List.getElem?_map, List.getElem?_eq_getElem hm]
    show some _ = some _
    rw [e2]
    have e3 : (i : Int) / (b.c.length : Int) = ((i / b.c.length : Nat) : Int) := (Int.natCast_ediv ..).symm
    have e4 : ((i : Int) % (b.c.length : Int)).toNat = i % b.c.length := by rw [← Int.natCast_emod, Int.toNat_natCast]
    rw [e3, e4, (getD_mem hm).2]
/-! ### places -/
theorem numF_append {b2 : List Block} {m2 : List Fact} (h2 : m2.length = b2.length) {b1 : List Block} {m1 : List Fact} (h1 : m1.length = b1.length) : numF (b1 ++ b2) (m1 ++ m2) = numF b1 m1 * prodF b2 + numF b2 m2 := by
  revert m2
  refine snocInd (P := fun b2 => ∀ {m2 : List Fact}, m2.length = b2.length → numF (b1 ++ b2) (m1 ++ m2) = numF b1 m1 * prodF b2 + numF b2 m2) (fun {m2} h2 => ?_) (fun b2 b ih m2 h2 => ?_) b2
  · have e : m2 = [] := List.length_eq_zero_iff.mp h2
    subst e
    rw [List.append_nil, List.append_nil, show prodF [] = 1 from rfl, Int.mul_one, show numF [] [] = 0 from rfl, Int.add_zero]
  · rcases List.eq_nil_or_concat m2 with e | ⟨m2', m, e⟩
    · subst e; simp at h2
    rw [List.concat_eq_append] at e
    subst e
    simp only [List.length_append, List.length_singleton] at h2
    have hl : m2'.length = b2.length := by omega
    rw [← List.append_assoc, ← List.append_assoc, numF_snoc (by rw [List.length_append, List.length_append]; omega), ih hl, numF_snoc hl, prodF_snoc, Int.add_mul, Int.mul_assoc, Int.add_assoc]
theorem numF_cons {b : Block} {bs : List Block} {m : Fact} {ms : List Fact} (h : ms.length = bs.length) : numF (b :: bs) (m :: ms) = (ixF m.2 b.c : Nat) * prodF bs + numF bs ms := by
  have := numF_append (b1 := [b]) (m1 := [m]) h rfl
  rw [show [b] ++ bs = b :: bs from rfl, show [m] ++ ms = m :: ms from rfl] at this
  rw [this]
  congr 2
  show (0 : Int) * _ + _ = _
  rw [Int.zero_mul, Int.zero_add]
theorem cut_last {α : Type} [DecidableEq α] [Enc α] (xs : List α) : DL.cutD (xs.map Enc.d) none (some (((xs.map (Enc.d (α := α))).length : Int) - 1)) = (xs.take (xs.length - 1)).map Enc.d := by
  cases xs with
  | nil => rfl
  | cons x xs =>
    rw [show (((x :: xs).map (Enc.d (α := α))).length : Int) - 1 = (((x :: xs).length - 1 : Nat) : Int) from by rw [List.length_map, List.length_cons]; omega]
    exact cut_take _ _
theorem snoc_d {α : Type} [DecidableEq α] [Enc α] (xs : List α) (x : α) : PyData.tuple (xs.map Enc.d ++ [Enc.d x]) = Enc.d (xs ++ [x]) := by
  show _ = PyData.tuple _
  rw [List.map_append]; rfl
theorem atI_dig {xs : List VRow} {n : Int} (h : xs ≠ []) : atI (xs.map Enc.d) (n % ((xs.map (Enc.d (α := VRow))).length : Int)) = some (Enc.d (xs.getD (n % (xs.length : Int)).toNat [])) := by
  obtain ⟨d1, d2⟩ := digit h n
  have e := atI_n d1
  rw [List.length_map, (getD_mem d1).2, ← e, d2]
theorem iB_nt {A B : Prop} (h : B) : iB (!true) A B := iB_no rfl h
theorem iB_nf {A B : Prop} (h : A) : iB (!false) A B := iB_yes rfl h
theorem iB_dyes {c : Prop} {_ : Decidable c} {A B : Prop} (e : c) (h : A) : iB (decide c) A B := iB_yes (decide_eq_true e) h
theorem iB_dno {c : Prop} {_ : Decidable c} {A B : Prop} (e : ¬ c) (h : B) : iB (decide c) A B := iB_no (decide_eq_false e) h
theorem iB_nyes {c : Prop} {_ : Decidable c} {A B : Prop} (e : c) (h : B) : iB (!decide c) A B := iB_no (by rw [decide_eq_true e]; rfl) h
theorem iB_nno {c : Prop} {_ : Decidable c} {A B : Prop} (e : ¬ c) (h : A) : iB (!decide c) A B := iB_yes (by rw [decide_eq_false e]; rfl) h
theorem cdiv_of {i j : Int} (h1 : 0 < j) (h2 : j < 1073741824) : CDiv i j := ⟨h1, h2⟩
theorem cmul_l {i j : Int} (h1 : -(2 ^ 64) < i) (h2 : i < 2 ^ 64) : CMul i j := .inl ⟨h1, h2⟩
theorem cmul_r {i j : Int} (h1 : -(2 ^ 64) < j) (h2 : j < 2 ^ 64) : CMul i j := .inr ⟨h1, h2⟩
end DL

/-! DL26: plain law of mendings: places, exchanges, order of numbers. -/
namespace DL
open PySem PySem.Spec PyProof.Rows L2
theorem blk_place {ts : List Tb} {fs : List Fact} {b : Block} (hb : b ∈ blocksG ts fs) {r : VRow} (hr : r ∈ b.c) : placeF ts (b.a, r) = (b.a, b.b) ∧ (b.a, r) ∈ fs := by
  unfold blocksG at hb
  obtain ⟨p, hp, rfl⟩ := List.mem_map.mp hb
  obtain ⟨h1, h2⟩ := (groupsF_mem ts fs p hp).2 r hr
  exact ⟨h1, h2⟩
theorem blk_apart {ts : List Tb} {fs : List Fact} (ha : Asc fs) (ht : ∀ f ∈ fs, hasT ts f) : ((blocksG ts fs).map fun b => (b.a, b.b)).Nodup := by
  have := (blocks_both rfl ha ht).2.2.1
  unfold blocksG
  rw [List.map_map]
  exact this
theorem sameBlk_iff {ts : List Tb} {f g : Fact} : sameBlk ts f g = true ↔ placeF ts f = placeF ts g := by
  unfold sameBlk placeF
  rw [Bool.and_eq_true, decide_eq_true_eq, decide_eq_true_eq, Prod.mk.injEq]
theorem mend_place {ts : List Tb} {fs ms : List Fact} (em : Each MP (blocksG ts fs) ms) {k : Nat} (h1 : k < (blocksG ts fs).length) (h2 : k < ms.length) : placeF ts ms[k] = ((blocksG ts fs)[k].a, (blocksG ts fs)[k].b) ∧ ms[k] ∈ fs := by
  obtain ⟨e1, e2⟩ := em.at k h1 h2
  have := blk_place (List.getElem_mem h1) e2
  rw [← e1] at this
  rw [← e1]
  exact this
theorem mp_place {ts : List Tb} {fs : List Fact} {f : Fact} {k : Nat} (h1 : k < (blocksG ts fs).length) (h : MP (blocksG ts fs)[k] f) : placeF ts f = ((blocksG ts fs)[k].a, (blocksG ts fs)[k].b) ∧ f ∈ fs := by
  have := blk_place (List.getElem_mem h1) h.2
  rw [← h.1] at this
  rw [← h.1]
  exact this
theorem place_inj {ts : List Tb} {fs : List Fact} (ha : Asc fs) (ht : ∀ f ∈ fs, hasT ts f) {j k : Nat} (hj : j < (blocksG ts fs).length) (hk : k < (blocksG ts fs).length) (e : ((blocksG ts fs)[j].a, (blocksG ts fs)[j].b) = ((blocksG ts fs)[k].a, (blocksG ts fs)[k].b)) : j = k := by
  have nd := blk_apart ha ht
  have h1 : j < ((blocksG ts fs).map fun b => (b.a, b.b)).length := by rw [List.length_map]; exact hj
  have h2 : k < ((blocksG ts fs).map fun b => (b.a, b.b)).length := by rw [List.length_map]; exact hk
  refine (List.getElem_inj (h₀ := h1) (h₁ := h2) nd).mp ?_
  rw [List.getElem_map, List.getElem_map]
  exact e
/-- the fact in the place of that of its block -/
def exchF (ts : List Tb) (ms : List Fact) (f : Fact) : List Fact := ms.map fun m => if sameBlk ts f m = true then f else m
theorem exch_set {ts : List Tb} {fs ms : List Fact} (ha : Asc fs) (ht : ∀ f ∈ fs, hasT ts f) (em : Each MP (blocksG ts fs) ms) {k : Nat} (hk : k < (blocksG ts fs).length) {f : Fact} (hf : MP (blocksG ts fs)[k] f) : exchF ts ms f = ms.set k f := by
  have el := em.len
  unfold exchF
  refine List.ext_getElem (by rw [List.length_map, List.length_set]) fun j h1 h2 => ?_
  rw [List.length_map] at h1
  rw [List.getElem_map, List.getElem_set]
  have hj : j < (blocksG ts fs).length := by omega
  have p1 := (mend_place em hj h1).1
  have p2 := (mp_place hk hf).1
  by_cases e : k = j
  · subst e
    rw [if_pos rfl, if_pos (sameBlk_iff.mpr (by rw [p1, p2]))]
  · rw [if_neg e, if_neg (fun z => e ?_)]
    have := sameBlk_iff.mp z
    rw [p1, p2] at this
    exact place_inj ha ht hk hj this
theorem set_cut {α : Type} {xs : List α} {k : Nat} {y : α} (h : k < xs.length) : xs.take k ++ [y] ++ xs.drop (k + 1) = xs.set k y := by
  rw [List.set_eq_take_append_cons_drop, if_pos h, List.append_assoc]; rfl
/-! ### numbers by places -/
theorem split_at {α : Type} {xs : List α} {k : Nat} (h : k < xs.length) : xs = xs.take k ++ xs[k] :: xs.drop (k + 1) := by
  rw [← List.drop_eq_getElem_cons h, List.take_append_drop]
theorem numF_split {bs : List Block} {ms : List Fact} (el : bs.length = ms.length) {k : Nat} (hb : k < bs.length) (hm : k < ms.length) :
    numF bs ms = numF (bs.take k) (ms.take k) * ((bs[k].c.length : Int) * prodF (bs.drop (k + 1))) + ((ixF ms[k].2 bs[k].c : Nat) * prodF (bs.drop (k + 1)) + numF (bs.drop (k + 1)) (ms.drop (k + 1))) := by
  conv => lhs; rw [split_at hb, split_at hm]
  have l1 : (ms.drop (k + 1)).length = (bs.drop (k + 1)).length := by rw [List.length_drop, List.length_drop]; omega
  rw [numF_append (by rw [List.length_cons, List.length_cons]; omega) (by rw [List.length_take, List.length_take]; omega), prodF_cons, numF_cons l1]
theorem drop_num {bs : List Block} {ms : List Fact} (hb : BOk bs) (em : Each MP bs ms) (k : Nat) : 0 ≤ numF (bs.drop k) (ms.drop k) ∧ numF (bs.drop k) (ms.drop k) < prodF (bs.drop k) := by
  have := num_lt (bs := bs.drop k) (ms := ms.drop k) (fun b h => hb b (List.mem_of_mem_drop h)) (em.drop k)
  exact ⟨this.1, this.2.1⟩
theorem num_set {bs : List Block} {ms : List Fact} (el : bs.length = ms.length) {k : Nat} (hb : k < bs.length) (hm : k < ms.length) (f : Fact) :
    numF bs (ms.set k f) = numF bs ms + (((ixF f.2 bs[k].c : Nat) : Int) - (ixF ms[k].2 bs[k].c : Nat)) * prodF (bs.drop (k + 1)) := by
  rw [numF_split el hb hm, numF_split (ms := ms.set k f) (by rw [List.length_set]; exact el) hb (by rw [List.length_set]; exact hm)]
  rw [List.take_set_of_le (Nat.le_refl k), List.drop_set_of_lt (by omega), List.getElem_set_self, Int.sub_mul]
  omega
theorem dig_lt {a b R x y : Int} (hx : 0 ≤ x ∧ x < R) (hy : 0 ≤ y ∧ y < R) (h : a < b) : a * R + x < b * R + y := by
  have : (a + 1) * R ≤ b * R := Int.mul_le_mul_of_nonneg_right (by omega) (by omega)
  rw [Int.add_mul, Int.one_mul] at this
  omega
theorem num_ord {bs : List Block} {ms ns : List Fact} (ok : BOk bs) (em : Each MP bs ms) (en : Each MP bs ns) {k : Nat} (hb : k < bs.length) (hm : k < ms.length) (hn : k < ns.length) (et : ms.take k = ns.take k) (ne : ms[k] ≠ ns[k]) :
    (ixF ms[k].2 bs[k].c ≠ ixF ns[k].2 bs[k].c) ∧ (ixF ms[k].2 bs[k].c < ixF ns[k].2 bs[k].c → numF bs ms < numF bs ns) ∧ (ixF ns[k].2 bs[k].c < ixF ms[k].2 bs[k].c → numF bs ns < numF bs ms) := by
  have a1 := em.at k hb hm
  have a2 := en.at k hb hn
  have d1 := drop_num ok em (k + 1)
  have d2 := drop_num ok en (k + 1)
  rw [numF_split em.len hb hm, numF_split en.len hb hn, et]
  refine ⟨fun e => ne ?_, fun h => ?_, fun h => ?_⟩
  · have := ixF_inj a1.2 a2.2 e
    exact Prod.ext (by rw [a1.1, a2.1]) this
  · have := dig_lt d1 d2 (show ((ixF ms[k].2 bs[k].c : Nat) : Int) < (ixF ns[k].2 bs[k].c : Nat) by omega)
    omega
  · have := dig_lt d2 d1 (show ((ixF ns[k].2 bs[k].c : Nat) : Int) < (ixF ms[k].2 bs[k].c : Nat) by omega)
    omega
theorem num_first : ∀ {bs : List Block} {ms : List Fact}, BOk bs → Each MP bs ms → numF bs ms = 0 → ∀ (j : Nat) (h1 : j < bs.length) (h2 : j < ms.length), ixF ms[j].2 bs[j].c = 0
  | _, _, ok, .nil, _, j, h1, _ => absurd h1 (by simp)
  | b :: bs, m :: ms, ok, .cons h t, e, j, h1, h2 => by
    have ok' : BOk bs := fun x hx => ok x (List.mem_cons_of_mem _ hx)
    rw [numF_cons t.len.symm] at e
    have n := num_lt ok' t
    have p := prodF_pos ok'
    have q : (ixF m.2 b.c : Nat) = 0 := by
      rcases Nat.eq_zero_or_pos (ixF m.2 b.c) with z | z
      · exact z
      · have : 1 * prodF bs ≤ ((ixF m.2 b.c : Nat) : Int) * prodF bs := Int.mul_le_mul_of_nonneg_right (by omega) (by omega)
        rw [Int.one_mul] at this
        omega
    cases j with
    | zero => exact q
    | succ j =>
      rw [q] at e
      exact num_first ok' t (by simpa using e) j (by simpa using h1) (by simpa using h2)
theorem num_last : ∀ {bs : List Block} {ms : List Fact}, BOk bs → Each MP bs ms → numF bs ms + 1 = prodF bs → ∀ (j : Nat) (h1 : j < bs.length) (h2 : j < ms.length), ixF ms[j].2 bs[j].c + 1 = bs[j].c.length
  | _, _, ok, .nil, _, j, h1, _ => absurd h1 (by simp)
  | b :: bs, m :: ms, ok, .cons h t, e, j, h1, h2 => by
    have ok' : BOk bs := fun x hx => ok x (List.mem_cons_of_mem _ hx)
    rw [numF_cons t.len.symm, prodF_cons] at e
    have n := num_lt ok' t
    have p := prodF_pos ok'
    have hl := ixF_lt h.2
    have q : ixF m.2 b.c + 1 = b.c.length := by
      rcases Nat.lt_or_ge (ixF m.2 b.c + 1) b.c.length with z | z
      · have := dig_lt (a := ((ixF m.2 b.c : Nat) : Int) + 1) (b := (b.c.length : Int)) (R := prodF bs) (x := 0) (y := 0) ⟨by omega, p⟩ ⟨by omega, p⟩ (by omega)
        rw [Int.add_mul, Int.one_mul] at this
        omega
      · omega
    cases j with
    | zero => exact q
    | succ j =>
      refine num_last ok' t ?_ j (by simpa using h1) (by simpa using h2)
      rw [← q, Int.natCast_add, Int.add_mul] at e
      omega
/-- the successor -/
theorem num_succ {bs : List Block} {ms ns : List Fact} (ok : BOk bs) (em : Each MP bs ms) (en : Each MP bs ns) (e : numF bs ns = numF bs ms + 1) {k : Nat} (hb : k < bs.length) (hm : k < ms.length) (hn : k < ns.length) (et : ms.take k = ns.take k) (ne : ms[k] ≠ ns[k]) :
    ixF ns[k].2 bs[k].c = ixF ms[k].2 bs[k].c + 1 ∧ ∀ (j : Nat) (hj : j < bs.length) (h1 : j < ms.length) (h2 : j < ns.length), k < j → ixF ms[j].2 bs[j].c + 1 = bs[j].c.length ∧ ixF ns[j].2 bs[j].c = 0 := by
  obtain ⟨o1, o2, o3⟩ := num_ord ok em en hb hm hn et ne
  have d1 := drop_num ok em (k + 1)
  have d2 := drop_num ok en (k + 1)
  rw [numF_split em.len hb hm, numF_split en.len hb hn, et] at e
  have lt : ixF ms[k].2 bs[k].c < ixF ns[k].2 bs[k].c := by
    rcases Nat.lt_or_ge (ixF ms[k].2 bs[k].c) (ixF ns[k].2 bs[k].c) with z | z
    · exact z
    · have := o3 (by omega)
      rw [numF_split em.len hb hm, numF_split en.len hb hn, et] at this
      omega
  have e2 : ixF ns[k].2 bs[k].c = ixF ms[k].2 bs[k].c + 1 := by
    rcases Nat.lt_or_ge (ixF ms[k].2 bs[k].c + 1) (ixF ns[k].2 bs[k].c) with z | z
    · have := dig_lt (a := ((ixF ms[k].2 bs[k].c : Nat) : Int) + 1) (b := ((ixF ns[k].2 bs[k].c : Nat) : Int)) (R := prodF (bs.drop (k + 1))) (x := 0) (y := 0) ⟨by omega, by omega⟩ ⟨by omega, by omega⟩ (by omega)
      rw [Int.add_mul, Int.one_mul] at this
      omega
    · omega
  rw [e2, Int.natCast_add, Int.add_mul] at e
  refine ⟨e2, fun j hj h1 h2 hkj => ?_⟩
  have okd : BOk (bs.drop (k + 1)) := fun b h => ok b (List.mem_of_mem_drop h)
  have x1 := num_last okd (em.drop (k + 1)) (by omega) (j - (k + 1)) (by rw [List.length_drop]; omega) (by rw [List.length_drop]; omega)
  have x2 := num_first okd (en.drop (k + 1)) (by omega) (j - (k + 1)) (by rw [List.length_drop]; omega) (by rw [List.length_drop]; omega)
  simp only [List.getElem_drop, show k + 1 + (j - (k + 1)) = j from by omega] at x1 x2
  exact ⟨x1, x2⟩
/-- the first place where two lists differ is one -/
theorem first_one {α : Type} {ms ns : List α} {j k : Nat} (hj : j < ms.length) (hj' : j < ns.length) (hk : k < ms.length) (hk' : k < ns.length) (e1 : ms.take j = ns.take j) (n1 : ms[j] ≠ ns[j]) (e2 : ms.take k = ns.take k) (n2 : ms[k] ≠ ns[k]) : j = k := by
  have key : ∀ {j k : Nat} (hj : j < ms.length) (hj' : j < ns.length), ms[j] ≠ ns[j] → ms.take k = ns.take k → ¬ j < k := fun {j k} hj hj' n1 e2 h => by
    have := congrArg (fun l => l[j]?) e2
    simp only [List.getElem?_take, h, if_true, List.getElem?_eq_getElem hj, List.getElem?_eq_getElem hj'] at this
    exact n1 (Option.some.inj this)
  have a := key hj hj' n1 e2
  have b := key hk hk' n2 e1
  omega
theorem atI_end {α : Type} [DecidableEq α] [Enc α] {xs : List α} (h : xs.length - 1 < xs.length) : atI (xs.map Enc.d) (((xs.map (Enc.d (α := α))).length : Int) - 1) = some (Enc.d xs[xs.length - 1]) := by
  rw [show ((xs.map (Enc.d (α := α))).length : Int) - 1 = ((xs.length - 1 : Nat) : Int) from by rw [List.length_map]; omega]
  exact atI_n h
theorem inX_m0 {α β : Type} [DecidableEq α] [Enc α] {f : β → α} {bs : List β} {a : α} {Q : W → Prop} (h : Q (.d (.bool (decide (a ∈ bs.map f))))) (hl : Enc.lvl α ≤ 63 := by decide) : inX false (.d (Enc.d a)) (.l (bs.map fun b => Enc.d (f b))) Q := inX_l0 (xs := bs.map f) h rfl (by rw [List.map_map]; rfl) hl
theorem inX_m1 {α β : Type} [DecidableEq α] [Enc α] {f : β → α} {bs : List β} {a : α} {Q : W → Prop} (h : Q (.d (.bool (!decide (a ∈ bs.map f))))) (hl : Enc.lvl α ≤ 63 := by decide) : inX true (.d (Enc.d a)) (.l (bs.map fun b => Enc.d (f b))) Q := inX_l1 (xs := bs.map f) h rfl (by rw [List.map_map]; rfl) hl
theorem lenI {α β : Type} {f : α → β} {xs : List α} {G : Prop} (h : xs.length ≤ 16777216 → G) : (xs.map f).length ≤ 16777216 → G := fun z => h (by rwa [List.length_map] at z)
theorem pair_enc {α β : Type} [DecidableEq α] [Enc α] [DecidableEq β] [Enc β] (a : α) (b : β) : PyData.tuple [Enc.d a, Enc.d b] = Enc.d (a, b) := rfl
theorem iB_nb1 {b : Bool} {A B : Prop} (e : b = true) (h : B) : iB (!b) A B := iB_no (by rw [e]; rfl) h
theorem iB_nb0 {b : Bool} {A B : Prop} (e : b = false) (h : A) : iB (!b) A B := iB_yes (by rw [e]; rfl) h
theorem cut_set_d {α : Type} [DecidableEq α] [Enc α] {xs : List α} {k : Nat} {y : α} (h : k < xs.length) : PyData.tuple ((xs.take k).map Enc.d ++ [Enc.d y] ++ (xs.drop (k + 1)).map Enc.d) = Enc.d (xs.set k y) := by
  show _ = PyData.tuple ((xs.set k y).map Enc.d)
  rw [← set_cut h, List.map_append, List.map_append]; rfl
theorem first_diff {α : Type} [DecidableEq α] : ∀ {ms ns : List α}, ms.length = ns.length → ms ≠ ns → ∃ (k : Nat) (h1 : k < ms.length) (h2 : k < ns.length), ms.take k = ns.take k ∧ ms[k] ≠ ns[k]
  | [], [], _, h => absurd rfl h
  | [], _ :: _, e, _ => by simp at e
  | _ :: _, [], e, _ => by simp at e
  | m :: ms, n :: ns, e, h => by
    by_cases q : m = n
    · subst q
      obtain ⟨k, h1, h2, e1, e2⟩ := first_diff (ms := ms) (ns := ns) (by simpa using e) (fun z => h (by rw [z]))
      exact ⟨k + 1, by simpa using h1, by simpa using h2, by rw [List.take_succ_cons, List.take_succ_cons, e1], by simpa using e2⟩
    · exact ⟨0, by simp, by simp, rfl, q⟩
theorem blocks_rows (ts : List Tb) (fs : List Fact) : ∀ b ∈ blocksG ts fs, b.c.length ≤ fs.length := fun b hb => by
  unfold blocksG at hb
  obtain ⟨p, hp, rfl⟩ := List.mem_map.mp hb
  exact (groupsF_size ts fs).2 p hp
/-! heads -/
theorem hd_callR {spd : Spd} {ws : List W} {Q : W → Prop} {ZD : XEd} (h : callR spd ws Q ZD) : callR spd ws Q ZD := h
theorem hd_idxR {w : W} {ws : List W} {Q : W → Prop} (h : idxR w ws Q) : idxR w ws Q := h
theorem hd_eqR {x y : PyData} {k : Bool → Prop} (h : eqR x y k) : eqR x y k := h
theorem hd_inX {n : Bool} {x y : W} {Q : W → Prop} (h : inX n x y Q) : inX n x y Q := h
theorem hd_isiR {ts : List Ty} {w : W} {Q : W → Prop} (h : isiR ts w Q) : isiR ts w Q := h
theorem hd_sameR {n : Nat} {a b : W} {Q : W → Prop} (h : sameR n a b Q) : sameR n a b Q := h
theorem hd_iB {b : Bool} {A B : Prop} (h : iB b A B) : iB b A B := h
theorem hd_ex {α : Type} {p : α → Prop} (h : ∃ x, p x) : ∃ x, p x := h
theorem hd_and {A B : Prop} (h : A ∧ B) : A ∧ B := h
/-! ### loops over a range, by natural numbers -/
section
variable {S : Type} {g : TGd} {body : TSd} {D : Dn} {ρ : En}
theorem forR_nz {n : Nat} (e : S → En) (I : Nat → S → Prop) (s0 : S) (h0 : ρ = e s0) (i0 : I 0 s0)
    (h : ∀ i s, i < n → I i s → g (.int ((i : Nat) : Int)) (e s) fun ρ2 => body { D with nx := fun ρ' => ∃ s', ρ' = e s' ∧ I (i + 1) s', ct := fun ρ' => ∃ s', ρ' = e s' ∧ I (i + 1) s', bk := D.nx } ρ2)
    (q : ∀ s, I n s → D.nx (e s)) : forR (rngD 0 n) g body D ρ := forR_n e I s0 h0 i0 (fun i s hi hs => by rw [Int.zero_add]; exact h i s hi hs) q
theorem forR_na {a n : Nat} (e : S → En) (I : Nat → S → Prop) (s0 : S) (h0 : ρ = e s0) (i0 : I 0 s0)
    (h : ∀ i s, i < n → I i s → g (.int ((a + i : Nat) : Int)) (e s) fun ρ2 => body { D with nx := fun ρ' => ∃ s', ρ' = e s' ∧ I (i + 1) s', ct := fun ρ' => ∃ s', ρ' = e s' ∧ I (i + 1) s', bk := D.nx } ρ2)
    (q : ∀ s, I n s → D.nx (e s)) : forR (rngD ((a : Nat) : Int) n) g body D ρ := forR_n e I s0 h0 i0 (fun i s hi hs => by rw [← Int.natCast_add]; exact h i s hi hs) q
end
theorem lcR_nz {n : Nat} {g : TGd} {c : TTd} {elt : TEd} {vs : List Nat} {ρ : En} {Q : W → Prop} (p : Nat → Bool) (f : Nat → PyData) (h : ∀ i < n, ∀ (k : PyData → Prop) (z : Prop), (p i = true → k (f i)) → (p i = false → z) → g (.int (i : Int)) (wipeD ρ vs) fun ρ' => c ρ' fun b => iB b (elt ρ' fun w => onFw w fun y => k y) z)
    (q : Q (.l (((List.range n).filter p).map f))) : lcR (rngD 0 n) g c elt vs ρ Q := by
  have e : rngD 0 n = (List.range n).map fun (i : Nat) => PyData.int (i : Int) := by
    unfold rngD
    refine List.map_congr_left fun i _ => ?_
    rw [Int.zero_add]
  rw [e]
  exact lcR_filter p f (fun i hi k z h1 h2 => h i (List.mem_range.mp hi) k z h1 h2) q
end DL

/-! DL27: blocks part the store. -/
namespace DL
open PySem PySem.Spec PyProof.Rows L2
theorem allF_len (bs : List Block) : (allF bs).length = (bs.map fun b => b.c.length).sum := by
  induction bs with
  | nil => rfl
  | cons b bs ih =>
    unfold allF at ih ⊢
    rw [List.flatMap_cons, List.length_append, ih, List.map_cons, List.sum_cons]
    unfold factsB
    rw [List.length_map]
theorem sum_ones_iff : ∀ {xs : List Nat}, (∀ x ∈ xs, 1 ≤ x) → xs.length ≤ xs.sum ∧ (xs.sum = xs.length ↔ ∀ x ∈ xs, x = 1)
  | [], _ => by simp
  | x :: xs, h => by
    obtain ⟨a, b⟩ := sum_ones_iff (xs := xs) fun y hy => h y (List.mem_cons_of_mem _ hy)
    have := h x (by simp)
    rw [List.sum_cons, List.length_cons]
    refine ⟨by omega, ⟨fun e y hy => ?_, fun e => ?_⟩⟩
    · rcases List.mem_cons.mp hy with z | z
      · subst z; omega
      · exact b.mp (by omega) y z
    · have := e x (by simp)
      have := b.mpr fun y hy => e y (List.mem_cons_of_mem _ hy)
      omega
theorem clean_len {ts : List Tb} {fs : List Fact} (ha : Asc fs) (ht : ∀ f ∈ fs, hasT ts f) : cleanF ts fs = decide (((blocksG ts fs).length : Int) = (fs.length : Int)) := by
  have e := blocks_all ha ht
  have l := congrArg List.length e
  rw [allF_len] at l
  obtain ⟨a, b⟩ := sum_ones_iff (xs := (blocksG ts fs).map fun b => b.c.length) fun x hx => by
    obtain ⟨b, hb, rfl⟩ := List.mem_map.mp hx
    exact List.length_pos_iff.mpr (blocks_ne ts fs b hb)
  rw [List.length_map] at a b
  unfold cleanF
  rw [Bool.eq_iff_iff, List.all_eq_true, decide_eq_true_eq]
  constructor
  · intro h
    have := b.mpr fun x hx => by
      obtain ⟨y, hy, rfl⟩ := List.mem_map.mp hx
      exact of_decide_eq_true (h y hy)
    omega
  · intro h x hx
    exact decide_eq_true (b.mp (by omega) _ (List.mem_map.mpr ⟨x, hx, rfl⟩))
theorem mem_allF {bs : List Block} {f : Fact} : f ∈ allF bs ↔ ∃ b ∈ bs, f.1 = b.a ∧ f.2 ∈ b.c := by
  unfold allF factsB
  rw [List.mem_flatMap]
  constructor
  · rintro ⟨b, hb, h⟩
    obtain ⟨r, hr, rfl⟩ := List.mem_map.mp h
    exact ⟨b, hb, rfl, hr⟩
  · rintro ⟨b, hb, h1, h2⟩
    exact ⟨b, hb, List.mem_map.mpr ⟨f.2, h2, Prod.ext h1.symm rfl⟩⟩
theorem blk_same {ts : List Tb} {fs : List Fact} (ha : Asc fs) (ht : ∀ f ∈ fs, hasT ts f) {b c : Block} (hb : b ∈ blocksG ts fs) (hc : c ∈ blocksG ts fs) (e : (b.a, b.b) = (c.a, c.b)) : b = c := by
  obtain ⟨i, hi, rfl⟩ := List.mem_iff_getElem.mp hb
  obtain ⟨j, hj, rfl⟩ := List.mem_iff_getElem.mp hc
  have := place_inj ha ht hi hj e
  subst this; rfl
theorem factsB_sub {bs : List Block} {b : Block} (h : b ∈ bs) : (factsB b).Sublist (allF bs) := by
  obtain ⟨l, r, e⟩ := allF_part h
  rw [e]
  exact (List.sublist_append_right l _).trans (List.sublist_append_left _ r)
theorem rivals_rows {ts : List Tb} {fs : List Fact} (ha : Asc fs) (ht : ∀ f ∈ fs, hasT ts f) {b : Block} (hb : b ∈ blocksG ts fs) {r : VRow} (hr : r ∈ b.c) : rivals ts fs (b.a, r) = (b.c.filter fun o => !decide (o = r)).map fun o => (b.a, o) := by
  have hall := blocks_all ha ht
  refine asc_unique (ha.sub (List.filter_sublist ..)) ?_ fun g => ?_
  · refine ha.sub ?_
    have h1 : (((b.c.filter fun o => !decide (o = r)).map fun o => (b.a, o)) : List Fact).Sublist (factsB b) := List.Sublist.map _ (List.filter_sublist ..)
    have h2 := factsB_sub hb
    rw [hall] at h2
    exact h1.trans h2
  · unfold rivals
    rw [List.mem_filter, Bool.and_eq_true, sameBlk_iff, (blk_place hb hr).1]
    constructor
    · rintro ⟨hg, h1, h2⟩
      rw [← hall] at hg
      obtain ⟨c, hc, e1, e2⟩ := mem_allF.mp hg
      have hp := (blk_place hc e2).1
      have eg : g = (c.a, g.2) := Prod.ext e1 rfl
      rw [← eg] at hp
      have := blk_same ha ht hb hc (by rw [h2, hp])
      subst this
      refine List.mem_map.mpr ⟨g.2, List.mem_filter.mpr ⟨e2, ?_⟩, eg.symm⟩
      simp only [Bool.not_eq_true', decide_eq_false_iff_not] at h1 ⊢
      exact fun z => h1 (by rw [eg, z])
    · intro h
      obtain ⟨o, ho, rfl⟩ := List.mem_map.mp h
      obtain ⟨ho, hne⟩ := List.mem_filter.mp ho
      obtain ⟨p1, p2⟩ := blk_place hb ho
      refine ⟨p2, ?_, p1.symm⟩
      simp only [Bool.not_eq_true', decide_eq_false_iff_not] at hne ⊢
      exact fun z => hne (Prod.mk.inj z).2
theorem ctF_one {α : Type} [DecidableEq α] {a : α} {xs : List α} (nd : xs.Nodup) (h : a ∈ xs) : ctF a xs = 1 := by
  unfold ctF
  have h1 := List.nodup_iff_count.mp nd a
  have h2 := List.count_pos_iff.mpr h
  omega
/-! ### places where two lists differ -/
def difF (n : Nat) (ms ns : List Fact) : List Nat := (List.range n).filter fun k => !decide (ms[k]? = ns[k]?)
theorem range_asc (n : Nat) : Asc (List.range n) := by
  unfold Asc
  refine List.Pairwise.imp (fun {a b} h => ?_) List.pairwise_lt_range
  exact decide_eq_true h
theorem mem_difF {n : Nat} {ms ns : List Fact} {k : Nat} : k ∈ difF n ms ns ↔ k < n ∧ ms[k]? ≠ ns[k]? := by
  unfold difF
  rw [List.mem_filter, List.mem_range]
  simp
theorem difF_self (n : Nat) (ms : List Fact) : difF n ms ms = [] := by
  unfold difF
  rw [List.filter_eq_nil_iff]
  simp
theorem difF_asc (n : Nat) (ms ns : List Fact) : Asc (difF n ms ns) := (range_asc n).filter _
theorem difF_set {ms : List Fact} {k : Nat} (hk : k < ms.length) {f : Fact} (h : ms[k] ≠ f) : difF ms.length (ms.set k f) ms = [k] := by
  refine asc_unique (difF_asc _ _ _) (List.pairwise_singleton _ _) fun j => ?_
  rw [mem_difF, List.mem_singleton]
  constructor
  · rintro ⟨hj, e⟩
    by_cases q : k = j
    · exact q.symm
    · rw [List.getElem?_set_ne q] at e
      exact absurd rfl e
  · rintro rfl
    refine ⟨hk, ?_⟩
    rw [List.getElem?_set_self hk, List.getElem?_eq_getElem hk]
    exact fun z => h (Option.some.inj z).symm
theorem count_less {l : List Nat} {p q : Nat → Bool} {k : Nat} (nd : l.Nodup) (hk : k ∈ l) (h1 : p k = true) (h2 : q k = false) (h3 : ∀ j, j ≠ k → p j = q j) : (l.filter p).length = (l.filter q).length + 1 := by
  induction l with
  | nil => cases hk
  | cons a l ih =>
    have n2 := List.nodup_cons.mp nd
    rcases List.mem_cons.mp hk with e | e
    · subst e
      have : l.filter p = l.filter q := List.filter_congr fun j hj => h3 j fun z => n2.1 (z ▸ hj)
      rw [List.filter_cons_of_pos h1, List.filter_cons_of_neg (by rw [h2]; decide), this]; rfl
    · have hne : a ≠ k := fun z => n2.1 (z ▸ e)
      have i := ih n2.2 e
      by_cases hp : p a = true
      · rw [List.filter_cons_of_pos hp, List.filter_cons_of_pos (by rw [← h3 a hne]; exact hp), List.length_cons, List.length_cons, i]
      · rw [List.filter_cons_of_neg hp, List.filter_cons_of_neg (by rw [← h3 a hne]; exact hp), i]
theorem difF_less {ms ns : List Fact} {k : Nat} (hk : k < ms.length) (hn : k < ns.length) (h : ms[k] ≠ ns[k]) : (difF ms.length ms ns).length = (difF ms.length (ms.set k ns[k]) ns).length + 1 := by
  unfold difF
  refine count_less List.nodup_range (List.mem_range.mpr hk) ?_ ?_ fun j hj => ?_
  · rw [List.getElem?_eq_getElem hk, List.getElem?_eq_getElem hn]
    simp [h]
  · rw [List.getElem?_set_self hk, List.getElem?_eq_getElem hn]
    simp
  · rw [List.getElem?_set_ne (Ne.symm hj)]
theorem rival_of {ts : List Tb} {fs : List Fact} {f g : Fact} (hg : g ∈ fs) (e : placeF ts f = placeF ts g) (n : g ≠ f) : g ∈ rivals ts fs f := by
  unfold rivals
  rw [List.mem_filter, Bool.and_eq_true, sameBlk_iff]
  exact ⟨hg, by simp [n], e⟩
theorem mend_nodup {ts : List Tb} {fs ms : List Fact} (ha : Asc fs) (ht : ∀ f ∈ fs, hasT ts f) (em : Each MP (blocksG ts fs) ms) : ms.Nodup := by
  have el := em.len
  unfold List.Nodup
  rw [List.pairwise_iff_getElem]
  intro i j hi hj hij e
  have p1 := (mend_place em (by omega) hi).1
  have p2 := (mend_place em (by omega) hj).1
  rw [e, p2] at p1
  have := place_inj ha ht (by omega) (by omega) p1
  omega
end DL

/-! DL28: questions, plainly. -/
namespace DL
open PySem PySem.Spec PyProof.Rows L2
def termOk : Term → Bool
  | .var x => isW x
  | .val v => v.ok
def Term.isVal : Term → Bool
  | .var _ => false
  | .val _ => true
theorem isV_val (v : Val) : isV (Enc.d v) = v.ok := by cases v <;> rfl
theorem isV_vald (v : Val) : isV v.d = v.ok := isV_val v
theorem argW_val (v : Val) : argW (.d v.d) = .d v.d := by cases v <;> rfl
def termsOf (body : List Atom) : List Term := body.flatMap (·.2)
theorem termsOf_snoc (body : List Atom) (a : Atom) : termsOf (body ++ [a]) = termsOf body ++ a.2 := by unfold termsOf; rw [List.flatMap_append]; simp
def atomB (ts : List Tb) (a : Atom) : Bool := match findT ts a.1 with
  | none => false
  | some t => decide (a.2.length = t.k + t.r) && a.2.all termOk
def joinB (ts : List Tb) (w : Int) (j : Join) : Bool := decide ((j.1.length : Int) = w) && decide (j.2.length ≤ 8) && j.2.all (atomB ts) && j.1.all fun t => termOk t && (t.isVal || memT t (termsOf j.2))
/-- a question that is valid -/
def QOk (ts : List Tb) (q : Quest) : Prop := 0 ≤ q.1 ∧ q.1 ≤ 8 ∧ q.2.length ≤ 8 ∧ ∀ j ∈ q.2, joinB ts q.1 j = true
def AtomOk (ts : List Tb) (a : Atom) : Prop := ∃ t ∈ ts, a.1 = t.n ∧ a.2.length = t.k + t.r ∧ ∀ u ∈ a.2, termOk u = true
theorem atomB_of {ts : List Tb} (so : SchOk ts) {a : Atom} (h : AtomOk ts a) : atomB ts a = true := by
  obtain ⟨t, ht, e, l, o⟩ := h
  unfold atomB
  rw [e, findT_mem so.nd ht]
  show (decide _ && _) = true
  rw [decide_eq_true l, Bool.true_and, List.all_eq_true]
  exact o
theorem joinB_of {ts : List Tb} (so : SchOk ts) {w : Int} {j : Join} (h1 : (j.1.length : Int) = w) (h2 : j.2.length ≤ 8) (h3 : ∀ a ∈ j.2, AtomOk ts a) (h4 : ∀ t ∈ j.1, termOk t = true ∧ (t.isVal = true ∨ t ∈ termsOf j.2)) : joinB ts w j = true := by
  unfold joinB
  rw [decide_eq_true h1, decide_eq_true h2, Bool.true_and, Bool.true_and, Bool.and_eq_true, List.all_eq_true, List.all_eq_true]
  refine ⟨fun a ha => atomB_of so (h3 a ha), fun t ht => ?_⟩
  obtain ⟨a, b⟩ := h4 t ht
  rw [a, Bool.true_and, Bool.or_eq_true]
  rcases b with b | b
  · exact .inl b
  · exact .inr (memT_yes b)
theorem termsOf_ok {ts : List Tb} {body : List Atom} (h : ∀ a ∈ body, AtomOk ts a) : ∀ t ∈ termsOf body, termOk t = true := fun t ht => by
  obtain ⟨a, ha, hm⟩ := List.mem_flatMap.mp ht
  obtain ⟨_, _, _, _, o⟩ := h a ha
  exact o t hm
/-- the join, made smaller -/
def JSmall (j : Join) : Prop := j.1.length ≤ 1000 ∧ j.2.length ≤ 1000 ∧ ∀ a ∈ j.2, a.2.length ≤ 1000
theorem AtomOk.len {ts : List Tb} (so : SchOk ts) {a : Atom} (h : AtomOk ts a) : a.2.length ≤ 8 := by
  obtain ⟨t, ht, _, l, _⟩ := h
  have := (so.wd t ht).2
  omega
theorem map_each {α β : Type} {xs : List α} {f : α → β} {P : β → Prop} (h : ∀ x ∈ xs, P (f x)) : ∀ y ∈ xs.map f, P y := fun y hy => by
  obtain ⟨x, hx, rfl⟩ := List.mem_map.mp hy
  exact h x hx
theorem all_app {α : Type} {P : α → Prop} {xs : List α} {x : α} (h : ∀ y ∈ xs, P y) (hx : P x) : ∀ y ∈ xs ++ [x], P y := fun y hy => (List.mem_append.mp hy).elim (h y) fun e => by
  have e : y = x := by simpa using e
  subst e; exact hx
theorem asc_strs {zs : List Str} (h : sortedS zs = true) : True := trivial
theorem one_len (c : Nat) : (⟨#[c]⟩ : Str).length = 1 := rfl
theorem atI_0 {α : Type} [DecidableEq α] [Enc α] {xs : List α} (h : 0 < xs.length) : atI (xs.map Enc.d) 0 = some (Enc.d xs[0]) := atI_n h
theorem pick_ints {ns : List Int} {r : Int} (r0 : 0 ≤ r) (r1 : r < ns.length) (h : ∀ n ∈ ns, 0 ≤ n) : ∃ k : Nat, atI (ns.map PyData.int) r = some (.int (k : Int)) ∧ (k : Int) ∈ ns := by
  obtain ⟨n, rfl⟩ := Int.eq_ofNat_of_zero_le r0
  have hn : n < ns.length := by omega
  obtain ⟨k, hk⟩ := Int.eq_ofNat_of_zero_le (h _ (List.getElem_mem hn))
  refine ⟨k, ?_, by rw [← hk]; exact List.getElem_mem hn⟩
  refine atI_nat ?_
  rw [List.getElem?_map, List.getElem?_eq_getElem hn, hk]; rfl
theorem joinB_small {ts : List Tb} (so : SchOk ts) {w : Int} {j : Join} (w8 : w ≤ 8) (h : joinB ts w j = true) : JSmall j := by
  unfold joinB at h
  simp only [Bool.and_eq_true, decide_eq_true_eq, List.all_eq_true] at h
  obtain ⟨⟨⟨h1, h2⟩, h3⟩, h4⟩ := h
  refine ⟨by omega, by omega, fun a ha => ?_⟩
  have := h3 a ha
  unfold atomB at this
  cases hf : findT ts a.1 with
  | none => rw [hf] at this; cases this
  | some t =>
    rw [hf, Bool.and_eq_true, decide_eq_true_eq] at this
    have := (so.wd t (findT_some hf).1).2
    omega
theorem allI {ns : List Int} {P : PyData → Prop} (h : ∀ n ∈ ns, P (.int n)) : ∀ x ∈ ns.map PyData.int, P x := map_each h
/-! ### words -/
theorem each_chars : ∀ {us : List Str}, (∀ u ∈ us, ∃ c, isLow c = true ∧ u = (⟨#[c]⟩ : Str)) → ∃ cs : List Nat, us = cs.map (fun c => (⟨#[c]⟩ : Str)) ∧ ∀ c ∈ cs, isLow c = true
  | [], _ => ⟨[], rfl, fun c hc => by cases hc⟩
  | u :: us, h => by
    obtain ⟨c, hc, e⟩ := h u (by simp)
    obtain ⟨cs, e2, h2⟩ := each_chars (us := us) fun v hv => h v (List.mem_cons_of_mem _ hv)
    refine ⟨c :: cs, by rw [e, e2]; rfl, fun d hd => ?_⟩
    rcases List.mem_cons.mp hd with z | z
    · rw [z]; exact hc
    · exact h2 d z
theorem letter_nat {i : Nat} (h : i < 26) : atI (Str.ofString "abcdefghijklmnopqrstuvwxyz").cps.toList (i : Int) = some (97 + i) := by
  rw [letters_cps]
  refine atI_nat ?_
  rw [List.getElem?_range' (by omega)]; simp
def zz (i : Nat) : Str := Str.ofString "zzzz" ++ ⟨#[97 + i]⟩
theorem zz_cps (i : Nat) : (zz i).cps.toList = [122, 122, 122, 122, 97 + i] := by
  have e : (zz i).cps.toList = (Str.ofString "zzzz").cps.toList ++ [97 + i] := Array.toList_append ..
  rw [e]; rfl
theorem zz_ok {i : Nat} (h : i < 26) : isW (zz i) = true ∧ (zz i).length = 5 := by
  refine ⟨isW_iff.mpr ⟨by rw [zz_cps]; simp, fun c hc => ?_⟩, by rw [len_cps, zz_cps]; rfl⟩
  rw [zz_cps] at hc
  unfold isLow
  rw [Bool.and_eq_true, decide_eq_true_eq, decide_eq_true_eq]
  simp at hc
  omega
theorem zz_inj {i j : Nat} (h : zz i = zz j) : i = j := by
  have := congrArg (fun x : Str => x.cps.toList) h
  simp only [zz_cps] at this
  simpa using this
/-- the words so far -/
def WOk (xs : List Str) (i : Nat) : Prop := xs.length = i ∧ xs.Nodup ∧ ∀ x ∈ xs, isW x = true ∧ x.length ≤ 23 ∧ (x.length ≠ 5 ∨ ∃ j < i, x = zz j)
theorem WOk.grow {xs : List Str} {i : Nat} {x : Str} (h : WOk xs i) (h1 : isW x = true) (h2 : x.length ≤ 23) (h3 : x ∉ xs) (h4 : x.length ≠ 5 ∨ x = zz i) : WOk (xs ++ [x]) (i + 1) := by
  obtain ⟨a, b, c⟩ := h
  refine ⟨by rw [List.length_append, a]; rfl, nodup_snoc b h3, fun y hy => ?_⟩
  rcases List.mem_append.mp hy with z | z
  · obtain ⟨c1, c2, c3⟩ := c y z
    exact ⟨c1, c2, c3.imp id fun ⟨j, hj, e⟩ => ⟨j, by omega, e⟩⟩
  · have e : y = x := by simpa using z
    subst e; exact ⟨h1, h2, h4.imp id fun e => ⟨i, by omega, e⟩⟩
/-- drawn words -/
def Words (xs : List Str) : Prop := xs.Nodup ∧ ∀ x ∈ xs, isW x = true ∧ x.length ≤ 23
theorem WOk.words {xs : List Str} {i : Nat} (h : WOk xs i) : Words xs := ⟨h.2.1, fun x hx => ⟨(h.2.2 x hx).1, (h.2.2 x hx).2.1⟩⟩
theorem Words.set {xs : List Str} {k : Nat} {x : Str} (h : Words xs) (hx : x ∉ xs) (h1 : isW x = true) (h2 : x.length ≤ 23) : Words (xs.set k x) := by
  refine ⟨?_, fun y hy => ?_⟩
  · unfold List.Nodup
    rw [List.pairwise_iff_getElem]
    intro i j hi hj hij e
    rw [List.length_set] at hi hj
    rw [List.getElem_set, List.getElem_set] at e
    by_cases a : k = i
    · rw [if_pos a, if_neg (by omega)] at e
      exact hx (e ▸ List.getElem_mem hj)
    · rw [if_neg a] at e
      by_cases b : k = j
      · rw [if_pos b] at e
        exact hx (e ▸ List.getElem_mem hi)
      · rw [if_neg b] at e
        have := (List.getElem_inj h.1).mp e
        omega
  · rcases List.mem_or_eq_of_mem_set hy with z | z
    · exact h.2 y z
    · rw [z]; exact ⟨h1, h2⟩
end DL

/-! DL29: dict(d); tests that change a dict (setdefault). -/
namespace DL
open PySem PySem.Spec PyProof.Rows L2
section
variable {X : Cx}
/-- dict(d): a copy; keys that are ints or texts -/
def rDictS (K : KW) : List V → Hp → VK → Prop := fun xs H Q => ∃ a G ks vals, xs = [.ref a] ∧ Ex G H ∧ DRel K G H a ks vals ∧ (∀ k ∈ ks, isSc k = true) ∧ ∀ (p : Addr) (o : Obj), H p = none → DRel K G (upd H p (rawO p o)) p ks vals → Q (.ref p) (upd H p (rawO p o))
theorem call_dictS : CallR X (.type "dict") (rDictS (kw X)) := by
  intro pins s σ H xs us Q I r h
  obtain ⟨a, G, ks, vals, rfl, g, hd, hk, q⟩ := h
  obtain ⟨u, rfl, rx⟩ := vals1 r
  cases rx
  obtain ⟨vs, d1, rfl, d3, d4, d5, d6⟩ := hd.sc I hk
  refine PySem.kt_call_dict d6 d1 d5 fun h' dd' hs => ?_
  obtain ⟨o1, es, ep, g1, g2, g3, g4, g5, g6⟩ := dd'
  have hm : (s.heap.objs.size == sysModules) = false := beq_eq_false_iff_ne.mpr (Nat.ne_of_gt I.big)
  refine ⟨.ref s.heap.objs.size, upd H s.heap.objs.size (rawO s.heap.objs.size o1), I.laid (t' := s.toks) (fun b u e => (hs.2 b (Nat.ne_of_lt (Heap.lt_size e))).trans (Heap.get?_push_of_some _ e)) (Nat.le_refl _) (raw_ok g1), rfl, q _ o1 (I.hok.fresh (Nat.le_refl _)) ?_⟩
  exact DRel.ofS (K := kw X) (P := X.prog) d3 d4 d5 hm g2 g3 g4 g5 g6 upd_same
end
def gDict (ws : List W) (Q : W → Prop) : Prop := match ws with
  | [w] => match asKV w with
    | some kvs => (∀ k ∈ dkeys kvs, isSc k = true) ∧ Q (.x (.m kvs))
    | none => False
  | _ => False
theorem cd_dictS {K : KW} : CallD K (rDictS K) gDict := by
  intro G0 H0 Hx G H σ ρ vs ws Q' Q E r q k
  unfold gDict at q
  split at q
  · rename_i w
    obtain ⟨v, rfl, r1⟩ := r.one
    split at q
    · rename_i kvs e1
      obtain ⟨hk, q⟩ := q
      obtain ⟨p, vals, rfl, hd, hv⟩ := RR.asKV r1 E e1
      exact ⟨p, G, _, vals, rfl, E.gh, hd, hk, fun p2 o hp dr => k _ (.x (.m kvs)) _ _ (Up.newH E.gh hp) ⟨p2, vals, rfl, hp, E.gh.back hp, trivial, dr, hv⟩ q⟩
    · exact q.elim
  · exact q.elim
/-! ### tests that may change the slots -/
abbrev TMd := En → (Bool → En → Prop) → Prop
def SndM (K : KW) (Z : Wish) (te : TT) (t : TMd) : Prop := ∀ (G0 H0 G H : Hp) (σ : L2.St) (ρ : En) (Q' : Bool → En → Prop) (Q : Bool → Hp → Prop), DEnv K G0 H0 G H σ ρ → Good K Z G0 H0 → t ρ Q' →
  (∀ b ρ' G' H', DEnv K G0 H0 G' H' σ ρ' → Q' b ρ' → Q b H') → te σ H Q
def PDM (X : Cx) (Z : Wish) (e : Expr) (t : TMd) : Prop := ∃ te, PT X e te ∧ SndM (kw X) Z te t
def PDMW (X : Cx) (Z : Wish) (e : Expr) (t : TMd) : Prop := ∃ te, PW X e te ∧ SndM (kw X) Z te t
def mOf (t : TTd) : TMd := fun ρ Q => t ρ fun b => Q b ρ
def mAnd (t : TTd) (u : TMd) : TMd := fun ρ Q => t ρ fun c => iB c (u ρ Q) (Q false ρ)
def sIfM (c : TMd) (t u : TSd) : TSd := fun D ρ => c ρ fun b ρ' => iB b (t D ρ') (u D ρ')
section
variable {X : Cx} {Z : Wish} {pos : Pos} {K : KW} {a b : Expr} {t : TTd} {u : TMd} {s1 s2 : TSd}
theorem snd_mOf {ua : TT} (s : SndT K Z ua t) : SndM K Z ua (mOf t) := fun G0 H0 G H σ ρ Q' Q E gd h k => s G0 H0 G H σ ρ _ _ E gd h fun b G1 H1 u1 q1 => k b ρ G1 H1 (E.to u1) q1
theorem snd_mAnd {ua ub : TT} (sa : SndT K Z ua t) (sb : SndM K Z ub u) : SndM K Z (tAnd ua ub) (mAnd t u) := by
  intro G0 H0 G H σ ρ Q' Q E gd hh k
  refine sa G0 H0 G H σ ρ _ _ E gd hh fun c G1 H1 u1 q1 => ?_
  rw [iB_eq] at q1
  cases c with
  | true => exact sb G0 H0 G1 H1 σ ρ _ _ (E.to u1) gd (by simpa using q1) k
  | false => exact k false ρ G1 H1 (E.to u1) (by simpa using q1)
theorem dm_of (h : PDT X Z a t) : PDM X Z a (mOf t) := by
  obtain ⟨te, p, s⟩ := h
  exact ⟨te, p, snd_mOf s⟩
theorem dmw_and1 (h : PDM X Z a u) : PDMW X Z (.BoolOp .And [a] pos) u := by
  obtain ⟨te, p, s⟩ := h
  exact ⟨te, pw_and1 p, s⟩
theorem dmw_and {rest : List Expr} (ha : PDT X Z a t) (hb : PDMW X Z (.BoolOp .And (b :: rest) pos) u) : PDMW X Z (.BoolOp .And (a :: b :: rest) pos) (mAnd t u) := by
  obtain ⟨ua, pa, sa⟩ := ha
  obtain ⟨ub, pb, sb⟩ := hb
  exact ⟨_, pw_and pa pb, snd_mAnd sa sb⟩
theorem dm_w {e : Expr} (h : PDMW X Z e u) : PDM X Z e u := by
  obtain ⟨te, p, s⟩ := h
  exact ⟨te, p.pt, s⟩
theorem ds_ifM {ce : Expr} {sa sb : List Stmt} (hc : PDM X Z ce u) (ha : PDSs X Z sa s1) (hb : PDSs X Z sb s2) : PDS X Z (.If ce sa sb pos) (sIfM u s1 s2) := by
  obtain ⟨uc, pc, sc⟩ := hc
  obtain ⟨ua, pa, sa⟩ := ha
  obtain ⟨ub, pb, sb⟩ := hb
  refine ⟨_, ps_if pc pa pb, fun G0 H0 G H σ ρ D' D E gd h n r b c => ?_⟩
  refine sc G0 H0 G H σ ρ _ _ E gd h fun d ρ1 G1 H1 E1 q1 => ?_
  rw [iB_eq] at q1
  cases d with
  | true => exact sa G0 H0 G1 H1 σ ρ1 D' D E1 gd (by simpa using q1) n r b c
  | false => exact sb G0 H0 G1 H1 σ ρ1 D' D E1 gd (by simpa using q1) n r b c
end
/-- what setdefault leaves, what it gives -/
def msetd (kvs : List (PyData × PyData)) (kd y : PyData) : List (PyData × PyData) := if dhas (dkeys kvs) kd = true then kvs else kvs ++ [(kd, y)]
def mgot (kvs : List (PyData × PyData)) (kd y : PyData) : PyData := (dget (dkeys kvs) (dvals kvs) kd).getD y
/-- d.setdefault(k, x) != e -/
def mSetdNe (j : Nat) (tk tx te : TEd) : TMd := fun ρ Q => match gx ρ j with
  | some (.x (.m kvs)) => tk ρ fun wk => match wk with
    | .d kd => tx ρ fun wx => match wx with
      | .d y => keyFit kd (dkeys kvs) ∧ kvs.length < sizeLine ∧ te (ρ.set j (some (.x (.m (msetd kvs kd y))))) fun w => gNeN (.d (mgot kvs kd y)) w fun r => onB r fun b => Q b (ρ.set j (some (.x (.m (msetd kvs kd y)))))
      | _ => False
    | _ => False
  | _ => False
theorem dget_all {K : KW} {G : Hp} {kd : PyData} : ∀ {ks : List PyData} {vs : List V} {ds : List PyData} {v : V}, IsAll K G vs ds → dget ks vs kd = some v → ∃ d, dget ks ds kd = some d ∧ Is K G v d
  | [], _, _, _, _, h => by cases h
  | k :: ks, [], _, _, _, h => by cases h
  | k :: ks, v :: vs, _, _, .cons (d := d) (ds := ds) a b, h => by
    replace h : (if sameKey k kd = true then some v else dget ks vs kd) = some _ := h
    show ∃ d', (if sameKey k kd = true then some d else dget ks ds kd) = some d' ∧ _
    by_cases e : sameKey k kd = true
    · rw [if_pos e] at h ⊢
      cases h
      exact ⟨d, rfl, a⟩
    · rw [if_neg e] at h ⊢
      exact dget_all b h
theorem snd_setdNe {K : KW} {Z : Wish} {j : Nat} {uk ux ue : TE} {tk tx te : TEd} (sk : Snd K Z uk tk) (sx : Snd K Z ux tx) (se : Snd K Z ue te) : SndM K Z (tTest (tOp (rNeD K) (tSetdR K (tVar j) uk ux) ue)) (mSetdNe j tk tx te) := by
  intro G0 H0 G H σ ρ Q' Q E gd h k
  unfold mSetdNe at h
  split at h
  · rename_i kvs e1
    have hi := gx_some e1
    obtain ⟨v0, hp, ⟨p, vals0, rfl, _, _, _, hd0, _⟩, _⟩ := E.slot j _ hi
    refine ⟨.ref p, hp, ?_, ?_⟩
    · obtain ⟨o, bs, hr, _⟩ := hd0.rawAt
      exact ⟨_, _, _, _, hr⟩
    refine sk G0 H0 G H σ ρ _ _ E gd h fun y wk G1 H1 u1 r1 q1 => ?_
    split at q1
    · rename_i kd
      refine sx G0 H0 G1 H1 σ ρ _ _ (E.to u1) gd q1 fun z wx G2 H2 u2 r2 q2 => ?_
      split at q2
      · rename_i yd
        obtain ⟨hf, hsz, q2⟩ := q2
        have u3 := u1.trans u2
        have E2 := (E.to u1).to u2
        obtain ⟨v1, hp1, ⟨p1, vals, e, _, _, _, hd1, hv1⟩, _⟩ := E2.slot j _ hi
        rw [hp] at hp1; cases hp1; cases e
        have ik : Is K G2 y kd := (r1.up u2)
        have ix : Is K G2 z yd := r2
        have hlen : vals.length = (dkeys kvs).length := hd1.lens
        -- what follows, from the heap behind the setdefault
        have fin : ∀ (v : V) (d : PyData) (Ha : Hp) (kvs' : List (PyData × PyData)), DEnv K G0 H0 G2 Ha σ (ρ.set j (some (.x (.m kvs')))) → Is K G2 v d → te (ρ.set j (some (.x (.m kvs')))) (fun w => gNeN (.d d) w fun r => onB r fun b => Q' b (ρ.set j (some (.x (.m kvs'))))) →
            ue σ Ha fun y H2 => rNeD K v y H2 fun x H' => ∃ k, x = .bl k ∧ Q k H' := by
          intro v d Ha kvs' Ea iv qa
          refine se G0 H0 G2 Ha σ _ _ _ Ea gd qa fun v3 w3 G3 H3 u4 r3 q3 => ?_
          have E3 := Ea.to u4
          refine od_neN G0 H0 H3 Ha G3 H3 σ _ v v3 (.d d) w3 _ _ E3 (Is.up u4.g iv) r3 q3 fun x wx G4 H4 u5 r5 q5 => ?_
          obtain ⟨c, rfl, q6⟩ := onB_of r5 q5
          exact ⟨c, rfl, k c _ G4 H4 (E3.to u5) q6⟩
        refine ⟨p, G2, dkeys kvs, vals, kd, rfl, E2.gh, hd1, ik, hf, by rw [List.length_map]; exact hsz, fun v hv => ?_, fun hn ob dp mu => ?_⟩
        · obtain ⟨d, e2, iv⟩ := dget_all hv1 hv
          have hk : dhas (dkeys kvs) kd = true := by rw [← dget_has (vs := vals) hlen, hv]; rfl
          rw [show msetd kvs kd yd = kvs from if_pos hk, show mgot kvs kd yd = d from by unfold mgot; rw [e2]; rfl] at q2
          refine fin v d H2 kvs ?_ iv q2
          rw [set_self hi]; exact E2
        · have e2 : dget (dkeys kvs) (dvals kvs) kd = none := by
            have := dget_has (kd := kd) (ks := dkeys kvs) (vs := dvals kvs) (by rw [List.length_map, List.length_map])
            rw [hn] at this
            cases q : dget (dkeys kvs) (dvals kvs) kd with
            | none => rfl
            | some _ => rw [q] at this; cases this
          rw [show msetd kvs kd yd = kvs ++ [(kd, yd)] from if_neg (by rw [hn]; exact Bool.false_ne_true), show mgot kvs kd yd = yd from by unfold mgot; rw [e2]; rfl] at q2
          refine fin z yd _ (kvs ++ [(kd, yd)]) (E2.putX hi hp (vals := dputV (dkeys kvs) vals kd z) (fun H' eH => ?_) ?_) ix q2
          · have := dp H' eH
            rw [show dkeys (kvs ++ [(kd, yd)]) = dputK (dkeys kvs) kd from by unfold dputK; rw [if_neg (by rw [hn]; exact Bool.false_ne_true)]; simp [dkeys]]
            exact this
          · rw [show dvals (kvs ++ [(kd, yd)]) = dvals kvs ++ [yd] from by simp [dvals]]
            unfold dputV
            rw [if_neg (by rw [hn]; exact Bool.false_ne_true)]
            exact hv1.append (.one ix)
      · exact q2.elim
    · exact q1.elim
  · exact h.elim
theorem dm_setdNe {X : Cx} {Z : Wish} (j : Nat) {x : Str} {kx vx e : Expr} {tk tx te : TEd} {pn ap cp pos : Pos} (hu : X.A.units + 65 < cLine) (hun : X.A.units + 64 < cLine) (hk : PD X Z kx tk) (hx : PD X Z vx tx) (he : PD X Z e te) (hN : X.N[j]? = some x := by rfl) (hvi : Vis X.env.scope x := by first | exact Or.inl rfl | exact Or.inr (Or.inl rfl) | exact Or.inr (Or.inr rfl)) (hd : (x == ("__debug__" : Str)) = false := by decide) (hcd : (x == ("__classdict__" : Str)) = false := by decide)
    (m : M2 X (.Name x pn) "setdefault" ap kx vx cp := by exact ⟨rfl, rfl, rfl, rfl⟩) (hm : behindInMarks .NotEq e = false := by first | exact nomark _ | rfl) :
    PDM X Z (.Compare (.Call (.Attribute (.Name x pn) "setdefault" ap) [kx, vx] [] cp) [.NotEq] [e] pos) (mSetdNe j tk tx te) := by
  obtain ⟨t1, p1, s1⟩ := hk
  obtain ⟨t2, p2, s2⟩ := hx
  obtain ⟨t3, p3, s3⟩ := he
  exact ⟨_, pt_cmpR (op_neD hun) (pe_setdR hu (pe_var hN hvi hd hcd) p1 p2 m) p3 hm, snd_setdNe s1 s2 s3⟩
end DL

/-! DL30: dicts by type, looked up; terms bound to values. -/
namespace DL
open PySem PySem.Spec PyProof.Rows L2
section
variable {α β : Type} [DecidableEq α] [Enc α] [DecidableEq β] [Enc β]
def lookT {α β : Type} [DecidableEq α] : List (α × β) → α → Option β
  | [], _ => none
  | p :: s, k => if p.1 = k then some p.2 else lookT s k
theorem lookT_none {α β : Type} [DecidableEq α] {k : α} : ∀ {s : List (α × β)}, lookT s k = none ↔ k ∉ s.map (·.1)
  | [] => by simp [lookT]
  | p :: s => by
    unfold lookT
    by_cases e : p.1 = k
    · rw [if_pos e]; simp [e]
    · rw [if_neg e, lookT_none (s := s)]
      simp [Ne.symm e]
theorem lookT_snoc {α β : Type} [DecidableEq α] {k x : α} {v : β} : ∀ {s : List (α × β)}, lookT (s ++ [(x, v)]) k = (lookT s k).or (if x = k then some v else none)
  | [] => by simp [lookT]
  | p :: s => by
    rw [List.cons_append]
    unfold lookT
    by_cases e : p.1 = k
    · rw [if_pos e, if_pos e]; rfl
    · rw [if_neg e, if_neg e, lookT_snoc]
theorem dget_td [EncN α] (k : α) : ∀ s : List (α × β), dget (dkeys (td s)) (dvals (td s)) (Enc.d k) = (lookT s k).map Enc.d
  | [] => rfl
  | p :: s => by
    show (if sameKey (Enc.d p.1) (Enc.d k) = true then some (Enc.d p.2) else dget (dkeys (td s)) (dvals (td s)) (Enc.d k)) = _
    rw [sameKey_enc, dget_td k s]
    show _ = (if p.1 = k then some p.2 else lookT s k).map Enc.d
    by_cases e : p.1 = k
    · rw [if_pos (decide_eq_true e), if_pos e]; rfl
    · rw [if_neg (by rw [decide_eq_false e]; decide), if_neg e]
theorem dhas_td [EncN α] (k : α) (s : List (α × β)) : dhas (dkeys (td s)) (Enc.d k) = (lookT s k).isSome := by
  rw [td_keys, dhas_enc]
  cases e : lookT s k with
  | none => exact decide_eq_false (lookT_none.mp e)
  | some v => exact decide_eq_true (Decidable.byContradiction fun z => by rw [lookT_none.mpr z] at e; cases e)
/-- setdefault by type -/
def setdT (s : List (α × β)) (k : α) (v : β) : List (α × β) := match lookT s k with
  | some _ => s
  | none => s ++ [(k, v)]
theorem msetd_td [EncN α] (s : List (α × β)) (k : α) (v : β) : msetd (td s) (Enc.d k) (Enc.d v) = td (setdT s k v) := by
  unfold msetd setdT
  rw [dhas_td]
  cases e : lookT s k with
  | none => simp [td]
  | some u => simp
theorem mgot_td [EncN α] (s : List (α × β)) (k : α) (v : β) : mgot (td s) (Enc.d k) (Enc.d v) = Enc.d ((lookT s k).getD v) := by
  unfold mgot
  rw [dget_td]
  cases lookT s k <;> rfl
theorem td_sc {β : Type} [DecidableEq β] [Enc β] (s : List (Str × β)) : ∀ k ∈ dkeys (td s), isSc k = true := fun k hk => by
  rw [td_keys] at hk
  obtain ⟨x, _, rfl⟩ := List.mem_map.mp hk
  rfl
theorem fit_tdS {β : Type} [DecidableEq β] [Enc β] {x : Str} {s : List (Str × β)} : keyFit (.str x) (dkeys (td s)) := fit_td (α := Str) rfl
theorem msetd_tdS {β : Type} [DecidableEq β] [Enc β] (s : List (Str × β)) (k : Str) (v : β) : msetd (td s) (.str k) (Enc.d v) = td (setdT s k v) := msetd_td s k v
theorem mgot_tdS {β : Type} [DecidableEq β] [Enc β] (s : List (Str × β)) (k : Str) (v : β) : mgot (td s) (.str k) (Enc.d v) = Enc.d ((lookT s k).getD v) := mgot_td s k v
theorem dget_tdS {β : Type} [DecidableEq β] [Enc β] (s : List (Str × β)) (k : Str) : dget (dkeys (td s)) (dvals (td s)) (.str k) = (lookT s k).map Enc.d := dget_td k s
theorem dhas_tdS {β : Type} [DecidableEq β] [Enc β] (s : List (Str × β)) (k : Str) : dhas (dkeys (td s)) (.str k) = (lookT s k).isSome := dhas_td k s
end
abbrev Vals1 := List (Str × Val)
/-- one term becomes one value -/
def bstep (s : Vals1) (p : Term × Val) : Option Vals1 := match p.1 with
  | .val u => if u = p.2 then some s else none
  | .var x => match lookT s x with
    | some u => if u = p.2 then some s else none
    | none => some (s ++ [(x, p.2)])
def bindF : List (Term × Val) → Vals1 → Option Vals1
  | [], s => some s
  | p :: ps, s => (bstep s p).bind (bindF ps)
theorem bindF_append (b : List (Term × Val)) : ∀ (a : List (Term × Val)) (s : Vals1), bindF (a ++ b) s = (bindF a s).bind (bindF b)
  | [], s => rfl
  | p :: a, s => by
    show (bstep s p).bind (bindF (a ++ b)) = ((bstep s p).bind (bindF a)).bind (bindF b)
    cases bstep s p with
    | none => rfl
    | some t => exact bindF_append b a t
theorem bindF_len : ∀ {ps : List (Term × Val)} {s t : Vals1}, bindF ps s = some t → t.length ≤ s.length + ps.length
  | [], s, t, h => by cases h; simp
  | p :: ps, s, t, h => by
    have h : (bstep s p).bind (bindF ps) = some t := h
    cases e : bstep s p with
    | none => rw [e] at h; cases h
    | some u =>
      rw [e] at h
      have h1 := bindF_len (ps := ps) (show bindF ps u = some t from h)
      have h2 : u.length ≤ s.length + 1 := by
        unfold bstep at e
        split at e
        · split at e <;> cases e; omega
        · split at e
          · split at e <;> cases e; omega
          · cases e; simp
      rw [List.length_cons]; omega
/-- the term, its variable replaced -/
def putF (s : Vals1) (t : Term) : Term := match t with
  | .var x => match lookT s x with
    | some u => .val u
    | none => .var x
  | .val u => .val u
theorem putF_n {s : Vals1} {x : Str} (e : lookT s x = none) : putF s (.var x) = .var x := by unfold putF; simp only [e]
theorem putF_s {s : Vals1} {x : Str} {u : Val} (e : lookT s x = some u) : putF s (.var x) = .val u := by unfold putF; simp only [e]
theorem look_at {s pre post : Vals1} {p : Str × Val} {x : Str} (e : s = pre ++ p :: post) (h : x ∉ pre.map (·.1)) (hx : x = p.1) : lookT s x = some p.2 := by
  subst e
  induction pre with
  | nil => exact if_pos hx.symm
  | cons q pre ih =>
    rw [List.map_cons, List.mem_cons, not_or] at h
    show (if q.1 = x then some q.2 else lookT (pre ++ p :: post) x) = _
    rw [if_neg (Ne.symm h.1)]
    exact ih h.2
theorem bstep_put (s : Vals1) (t : Term) (v : Val) : bstep s (t, v) = match putF s t with
    | .var x => some (s ++ [(x, v)])
    | .val u => if u = v then some s else none := by
  cases t with
  | val u => rfl
  | var x =>
    cases e : lookT s x with
    | none => rw [putF_n e]; simp only [bstep, e]
    | some u => rw [putF_s e]; simp only [bstep, e]
def putJ (row : VRow) (j : Join) : Option Join := (bindF (j.1.zip row) []).map fun s => ([], j.2.map fun a => (a.1, a.2.map (putF s)))
theorem bind_at {us : List Term} {r : VRow} {s m : Vals1} {i : Nat} (hu : i < us.length) (hr : i < r.length) (e : bindF ((us.zip r).take i) s = some m) : bindF ((us.zip r).take (i + 1)) s = bstep m (us[i], r[i]) := by
  have hz : i < (us.zip r).length := by rw [List.length_zip]; omega
  rw [List.take_add_one, List.getElem?_eq_getElem hz, bindF_append, e]
  show (bstep m (us.zip r)[i]).bind (bindF []) = _
  rw [List.getElem_zip]
  cases bstep m (us[i], r[i]) <;> rfl
theorem bind_none {us : List Term} {r : VRow} {s m : Vals1} {i : Nat} (hu : i < us.length) (hr : i < r.length) (e : bindF ((us.zip r).take i) s = some m) (n : bstep m (us[i], r[i]) = none) : bindF (us.zip r) s = none := by
  have h := bind_at hu hr e
  rw [n] at h
  rw [← List.take_append_drop (i + 1) (us.zip r), bindF_append, h]; rfl
def jD : Option Join → PyData
  | none => .none
  | some j => Enc.d j
theorem joinB_len {ts : List Tb} {w : Int} {j : Join} (h : joinB ts w j = true) : (j.1.length : Int) = w := by
  unfold joinB at h
  simp only [Bool.and_eq_true, decide_eq_true_eq] at h
  exact h.1.1.1
theorem ixN_k {n i : Nat} (h : i < n) : ixN n (i : Int) = some i := by
  unfold ixN
  rw [if_pos (by omega), if_pos (by omega)]; rfl
/-! ### comprehensions in comprehensions -/
theorem relabel_look {env : Env} {x : Str} {k : NameKind} : ∀ {names : List (Str × NameKind)}, names.lookup x = some k → (names.map fun (n, k) => if (k == NameKind.free && env.scope.kind == .function && env.kindOf n == some .cell) then (n, NameKind.cell) else (n, k)).lookup x = some k ∨ (k = .free ∧ (names.map fun (n, k) => if (k == NameKind.free && env.scope.kind == .function && env.kindOf n == some .cell) then (n, NameKind.cell) else (n, k)).lookup x = some .cell)
  | [], h => by simp at h
  | (n, k0) :: r, h => by
    have ih := fun e => @relabel_look env x k r e
    show (List.lookup x ((if (k0 == NameKind.free && env.scope.kind == .function && env.kindOf n == some .cell) = true then (n, NameKind.cell) else (n, k0)) :: _) = _) ∨ (_ ∧ List.lookup x ((if (k0 == NameKind.free && env.scope.kind == .function && env.kindOf n == some .cell) = true then (n, NameKind.cell) else (n, k0)) :: _) = _)
    cases hx : x == n with
    | true =>
      simp only [List.lookup_cons, hx] at h
      cases h
      by_cases hc : (k == NameKind.free && env.scope.kind == .function && env.kindOf n == some .cell) = true
      · rw [if_pos hc]
        simp only [List.lookup_cons, hx]
        simp only [Bool.and_eq_true, beq_iff_eq] at hc
        exact .inr ⟨hc.1.1, by first | rfl | trivial⟩
      · rw [if_neg hc]; simp [List.lookup_cons, hx]
    | false =>
      simp only [List.lookup_cons, hx] at h
      by_cases hc : (k0 == NameKind.free && env.scope.kind == .function && env.kindOf n == some .cell) = true
      · rw [if_pos hc]; simp only [List.lookup_cons, hx]; exact ih h
      · rw [if_neg hc]; simp only [List.lookup_cons, hx]; exact ih h
theorem blkOk_rel {N : List Str} {sc scope : Scope} {env : Env} {own : List (Str × Nat)} (h : blkC N sc scope own = true) : BlkOk N (relabel sc env) scope own := by
  have ok := blkOk_by h
  refine ⟨ok.kind, ok.uniq, ok.ix, fun y hy e => ?_, ok.own⟩
  rcases ok.free y hy e with q | q
  · rcases relabel_look (env := env) q with r | r
    · exact .inl r
    · exact .inl r.2
  · rcases relabel_look (env := env) q with r | r
    · exact .inr r
    · exact .inl r.2
end DL

/-! DL31: sets of texts of any number. -/
namespace DL
open PySem PySem.Spec PyProof.Rows L2
/-! ### the set as an object -/
def keyS (e : Int × Value) : Str := match e.2 with
  | .str k _ => k
  | _ => Str.empty
def GoodS (w : World) (e : Int × Value) : Prop := ∃ k t, e.2 = Value.str k t ∧ e.1 = hashStr w k
/-- what a set's memory is: rows es, table t -/
structure MemS (w : World) (es : Array (Int × Value)) (t : SetTable) : Prop where
  good : ∀ e ∈ es.toList, GoodS w e
  nd : (es.toList.map keyS).Nodup
  few : es.size < scanBound
  fit : t.fits es.size = true
  ris : Ris t.place.toList
  led : w.params.followText "set-order" = true ∨ t.led = true
/-- the set of texts at a: its members are ks, each once, in some order -/
def SetS (w : World) (h : Heap) (a : Addr) (S : Str → Prop) : Prop := ∃ o es ep t, h.get? a = some o ∧ o.ExactSet ∧ o.data = .set es ep t ∧ MemS w es t ∧ ∀ k, S k ↔ k ∈ es.toList.map keyS
theorem SetS.at {w : World} {h h' : Heap} {a : Addr} {S : Str → Prop} (R : SetS w h a S) (k : ∀ o, h.get? a = some o → h'.get? a = some o) : SetS w h' a S := by
  obtain ⟨o, es, ep, t, ho, r⟩ := R
  exact ⟨o, es, ep, t, k o ho, r⟩
section
variable {P : Program} {w : World}
theorem goodS_elems {l : List (Int × Value)} (g : ∀ e ∈ l, GoodS w e) : ElemsOf (strKind P w) l := fun e he => by
  obtain ⟨k, t, h1, h2⟩ := g e he
  exact ⟨⟨k, by rw [h1]; exact strKind_is P w k t, h2⟩, by rw [h1] <;> rfl⟩
theorem goodS_is {e : Int × Value} (g : GoodS w e) (k : Str) : (strKind P w).is k e.2 = true ↔ keyS e = k := by
  obtain ⟨k0, t, h1, _⟩ := g
  unfold keyS
  rw [h1]
  constructor
  · intro z
    obtain ⟨u, hu⟩ := Value.isStrOf_shape (x := k) (v := Value.str k0 t) z
    injection hu with e1 _
  · intro z
    have z : k0 = k := z
    subst z
    exact strKind_is P w k0 t
theorem goodS_mem {l : List (Int × Value)} (g : ∀ e ∈ l, GoodS w e) (k : Str) : k ∈ l.map keyS ↔ ∃ e ∈ l, (strKind P w).is k e.2 = true := by
  rw [List.mem_map]
  constructor
  · rintro ⟨e, he, q⟩
    exact ⟨e, he, (goodS_is (g e he) k).2 q⟩
  · rintro ⟨e, he, q⟩
    exact ⟨e, he, (goodS_is (g e he) k).1 q⟩
/-- one row more -/
theorem MemS.more {es es1 : Array (Int × Value)} {t t1 : SetTable} {k : Str} {u : Tok} (M : MemS w es t) (hk : k ∉ es.toList.map keyS) (p : es1.toList.Perm ((hashStr w k, Value.str k u) :: es.toList)) (room : es.size + 1 < scanBound)
    (f : t1.fits es1.size = true) (r : Ris t1.place.toList) (l : t1.led = t.led) : MemS w es1 t1 ∧ ∀ i, i ∈ es1.toList.map keyS ↔ (i ∈ es.toList.map keyS ∨ i = k) := by
  have pk : (es1.toList.map keyS).Perm (k :: es.toList.map keyS) := p.map keyS
  have hs : es1.size = es.size + 1 := by rw [← Array.length_toList, p.length_eq, List.length_cons, Array.length_toList]
  refine ⟨⟨fun e he => ?_, pk.nodup_iff.mpr (List.nodup_cons.mpr ⟨hk, M.nd⟩), by omega, f, r, by rw [l]; exact M.led⟩, fun i => ?_⟩
  · rcases List.mem_cons.mp (p.mem_iff.mp he) with z | z
    · rw [z]; exact ⟨k, u, rfl, rfl⟩
    · exact M.good e z
  · rw [pk.mem_iff, List.mem_cons]
    exact Or.comm
/-- the rows laid anew -/
theorem MemS.laid {es : Array (Int × Value)} {t : SetTable} (M : MemS w es t) (n : Nat) : MemS w (relayAll t es n).1 (relayAll t es n).2.1 ∧ ∀ i, i ∈ (relayAll t es n).1.toList.map keyS ↔ i ∈ es.toList.map keyS := by
  have pm := relayAll_perm t es n
  have hs : (relayAll t es n).1.size = es.size := by rw [← Array.length_toList, pm.length_eq, Array.length_toList]
  exact ⟨⟨fun e he => M.good e (pm.mem_iff.mp he), (pm.map keyS).nodup_iff.mpr M.nd, by rw [hs]; exact M.few, relayAll_fits t es n, relayAll_ris t es n, M.led.imp id fun z => by rw [relayAll_led]; exact z⟩, fun i => (pm.map keyS).mem_iff⟩
variable {A : Around} {E : Value → Shared → Prop} {s : Shared} {a : Addr} {S : Str → Prop}
theorem setS_tail {g : Bool → Sem Unit} (hg : ∀ (b : Bool) (s₁ : Shared) (Q' : Unit → Shared → Prop), Q' () s₁ → wpAny (model P w) A (g b) Q' E s₁)
    {o : Obj} {es : Array (Int × Value)} {ep : Nat} {t : SetTable} (ho : s.heap.get? a = some o) (hex : o.ExactSet) (hd : o.data = .set es ep t)
    {es1 : Array (Int × Value)} {t2 : SetTable} {S' : Str → Prop} (M : MemS w es1 t2) (m1 : ∀ k, S' k ↔ k ∈ es1.toList.map keyS) {wasDummy : Bool} {R : Option Bool → Shared → Prop}
    (hR : ∀ h', Heap.SameBut a s.heap h' → SetS w h' a S' → R (some true) { s with heap := h' }) :
    wpAny (model P w) A (do
        storeSet a es1 t2
        if (!wasDummy && t2.tooFull) = true then do
            g (relayAll t2 es1 (SetTable.grown es1.size)).2.2
            storeSet a (relayAll t2 es1 (SetTable.grown es1.size)).1 (relayAll t2 es1 (SetTable.grown es1.size)).2.1
            pure (some true)
          else pure (some true)) R E s := by
  refine wpAny_bind (wpAny_storeSet_of ho hd ?_ (fits_of_scanBound M.few))
  have ho1 := PpSet.storeB_at (es' := es1) (t' := t2) ho hd
  have sb1 := Heap.SameBut.update s.heap a (Obj.putSet es1 t2)
  split
  · obtain ⟨M2, m2⟩ := M.laid (SetTable.grown es1.size)
    refine wpAny_bind (hg _ _ _ ?_)
    refine wpAny_bind (wpAny_storeSet_of ho1 rfl ?_ (fits_of_scanBound M2.few))
    refine wpAny_pure (hR _ (sb1.trans (Heap.SameBut.update _ a _)) ?_)
    exact ⟨_, _, _, _, PpSet.storeB_at ho1 rfl, hex, rfl, M2, fun k => (m1 k).trans (m2 k).symm⟩
  · exact wpAny_pure (hR _ sb1 ⟨_, es1, _, t2, ho1, hex, rfl, M, m1⟩)
theorem setS_add_hashed {k : Str} {u : Tok} {Q : Bool → Shared → Prop} (R : SetS w s.heap a S) (room : ∀ o es ep t, s.heap.get? a = some o → o.data = .set es ep t → es.size + 1 < scanBound)
    (hQ : ∀ b h', Heap.SameBut a s.heap h' → SetS w h' a (fun j => S j ∨ j = k) → Q b { s with heap := h' }) :
    wpAny (model P w) A (setAddHashed a (.str k u) ((strKind P w).hash k)) Q E s := by
  obtain ⟨o, es, ep, t, ho, hex, hd, M, hm⟩ := R
  have room := room o es ep t ho hd
  have hkey : (strKind P w).is k (.str k u) = true := strKind_is P w k u
  have hsc : (Value.str k u).scannable = true := rfl
  have hel : ElemsOf (strKind P w) es.toList := goodS_elems M.good
  unfold setAddHashed setAddHashedIn
  refine wpAny_holding (wpAny_bind (wpAny_setState_of ho hd M.fit ?_))
  dsimp only
  rw [byScan_of hsc M.few hel]
  simp only [↓reduceIte]
  unfold setAddByScan
  refine wpAny_bind ?_
  refine wpAny_bind (wpAny_rule ?_)
  refine wpAny_bind (wpAny_setScan_of hkey ho hd M.fit hel ?_)
  cases hfi : List.findIdx? (fun e => (strKind P w).is k e.2) es.toList with
  | some j =>
    dsimp only
    obtain ⟨hj, pj, _⟩ := List.findIdx?_eq_some_iff_getElem.mp hfi
    have hSk : S k := (hm k).2 ((goodS_mem (P := P) M.good k).2 ⟨es.toList[j], List.getElem_mem hj, pj⟩)
    refine wpAny_pure (wpAny_pure ?_)
    exact hQ _ s.heap (Heap.SameBut.refl a s.heap) ⟨o, es, ep, t, ho, hex, hd, M, fun i => by
      rw [← hm i]
      exact ⟨fun z => z.elim id (fun e => e ▸ hSk), .inl⟩⟩
  | none =>
    dsimp only
    have hnk : k ∉ es.toList.map keyS := fun z => by
      obtain ⟨e, he, q⟩ := (goodS_mem (P := P) M.good k).1 z
      have c := List.findIdx?_eq_none_iff.mp hfi e he
      rw [q] at c
      cases c
    have hgw : ∀ (b : Bool) {s₁ : Shared} {Q' : Unit → Shared → Prop}, Q' () s₁ → wpAny (model P w) A (match b with | true => rule "set.scan.the-table-gave-way" | false => pure ()) Q' E s₁ :=
      fun b s₁ Q' q => by cases b <;> first | exact wpAny_pure q | exact wpAny_rule q
    have pm := layNew_perm t es ((strKind P w).hash k) (.str k u)
    have hf1 := layNew_fits t es ((strKind P w).hash k) (.str k u)
    have hr1 := layNew_ris t es ((strKind P w).hash k) (.str k u) M.ris
    have hl1 := layNew_led t es ((strKind P w).hash k) (.str k u)
    generalize layNew t es ((strKind P w).hash k) (.str k u) = Z at pm hf1 hr1 hl1 ⊢
    obtain ⟨es1, t1, wasDummy, gave⟩ := Z
    dsimp only at pm hf1 hr1 hl1 ⊢
    rw [Array.toList_push] at pm
    have pc : es1.toList.Perm ((hashStr w k, Value.str k u) :: es.toList) := pm.trans (List.perm_append_singleton _ _)
    have fin : ∀ t2 : SetTable, t2.fits es1.size = true → Ris t2.place.toList → t2.led = t.led → MemS w es1 t2 ∧ ∀ i, (S i ∨ i = k) ↔ i ∈ es1.toList.map keyS := fun t2 f r l => by
      obtain ⟨M1, m1⟩ := M.more hnk pc room f r l
      exact ⟨M1, fun i => by rw [m1 i, hm i]⟩
    refine wpAny_bind (hgw _ ?_)
    split
    · refine wpAny_bind ?_
      rw [hashByValue_scannable 8 hsc]
      refine wpAny_pure ?_
      refine setS_tail ?_ ho hex hd (fin _ ?_ ?_ ?_).1 (fin t1 hf1 hr1 hl1).2 ?_
      · intro b s₁ Q' q; cases b <;> first | exact wpAny_pure q | exact wpAny_rule q
      · first | (split <;> first | exact hf1 | exact SetTable.fits_plain_off hf1) | exact hf1
      · first | (split <;> exact hr1) | exact hr1
      · first | (split <;> exact hl1) | exact hl1
      · intro h' sb r; dsimp only; exact wpAny_pure (hQ _ h' sb r)
    · refine wpAny_bind (wpAny_pure ?_)
      simp only [↓reduceIte]
      refine setS_tail ?_ ho hex hd (fin _ hf1 hr1 hl1).1 (fin _ hf1 hr1 hl1).2 ?_
      · intro b s₁ Q' q; cases b <;> first | exact wpAny_pure q | exact wpAny_rule q
      · intro h' sb r; dsimp only; exact wpAny_pure (hQ _ h' sb r)
end
theorem MemS.size_le {w : World} {es : Array (Int × Value)} {t : SetTable} (M : MemS w es t) {xs : List Str} (h : ∀ k, k ∈ es.toList.map keyS → k ∈ xs) : es.size ≤ xs.length := by
  have := nodup_len (ys := xs) M.nd h
  rw [List.length_map, Array.length_toList] at this
  exact this
section
variable {P : Program} {w : World} {A : Around} {E : Value → Shared → Prop} {s : Shared}
theorem set_update_strs {I : Addr} {fp wr : List Addr} {G : Array GenState → Array GenState → Prop} {n : Nat} {Pv : Nat → Value → Prop} {St : Nat → Shared → Prop} {R : Result → Shared → Prop}
    (W : WalksS P w A.in1 I fp wr G n Pv St) (S : Addr) (hSf : S ∉ fp) (xs : List Str) (hn : n = xs.length) (hb : xs.length + 1 < scanBound) (hval : ∀ i v, Pv i v → ∃ k t, xs[i]? = some k ∧ v = .str k t) :
    ∀ (k i : Nat) (s : Shared), n - i = k → i ≤ n → St i s → SetS w s.heap S (fun j => j ∈ xs.take i) →
      (∀ s', Moved (S :: wr) G s s' → SetS w s'.heap S (fun j => j ∈ xs) → R (.ok (.ret .none)) s') →
      codeAny (model P w) A (.builtin "set.update.loop" ⟨[.ref S, .ref I], []⟩) R s := by
  have hSw : S ∉ wr := fun h => hSf (W.sub _ h)
  have hsub : ∀ b ∈ wr, b ∈ S :: wr := fun b hb => List.mem_cons_of_mem _ hb
  intro k
  induction k with
  | zero =>
    intro i s hk' hi hst hS hR
    have hin : i = n := by omega
    subst hin
    refine codeAny_builtin F.entry_set_update_loop ?_
    rw [Around.under_plainId F.plain_set_update_loop _]
    show wpAny _ A.in1 (pyNext (.ref I) >>= _) _ _ s
    refine wpAny_bind (W.done s _ _ hst fun s' hm => ?_)
    show wpAny _ A.in1 (ret Value.none) _ _ s'
    have e : xs.take i = xs := List.take_of_length_le (by omega)
    rw [e] at hS
    exact wpAny_pure (hR s' (hm.mono hsub) (hS.at fun o e => hm.heap S o hSw e))
  | succ k ih =>
    intro i s hk' hi hst hS hR
    have hlt : i < n := by omega
    refine codeAny_builtin F.entry_set_update_loop ?_
    rw [Around.under_plainId F.plain_set_update_loop _]
    show wpAny _ A.in1 (pyNext (.ref I) >>= _) _ _ s
    refine wpAny_bind (W.item i s _ _ hlt hst fun v s' hP hst' hm => ?_)
    obtain ⟨z, t, hz, rfl⟩ := hval i v hP
    have hS' : SetS w s'.heap S (fun j => j ∈ xs.take i) := hS.at fun o e => hm.heap S o hSw e
    show wpAny _ A.in1 (holding [Value.str z t] (setAdd S (.str z t)) >>= _) _ _ s'
    refine wpAny_bind (wpAny_holding ?_)
    unfold setAdd
    refine wpAny_holding ?_
    refine wpAny_bind ((strKind P w).pyHash (k := z) (strKind_is _ _ _ _) ?_)
    refine setS_add_hashed (s := { s' with toks := s'.toks + 1 }) hS' ?_ fun b h' hsb hS2 => ?_
    · intro o es ep t2 ho hd
      obtain ⟨o', es', ep', t', ho', hx', hd', M', hm'⟩ := hS'
      have e1 : o = o' := Option.some.inj (ho.symm.trans ho')
      subst e1
      have e2 := hd.symm.trans hd'
      injection e2 with e2 _ _
      subst e2
      have := M'.size_le (xs := xs) fun k hk => List.mem_of_mem_take ((hm' k).mpr hk)
      omega
    have hS3 : SetS w h' S (fun j => j ∈ xs.take (i + 1)) := by
      have e : (fun j => j ∈ xs.take i ∨ j = z) = fun j => j ∈ xs.take (i + 1) := funext fun j => by
        rw [List.take_add_one, hz]
        simp [List.mem_append]
      rw [e] at hS2
      exact hS2
    refine wpAny_pure ⟨plainId_quiet F.plain_set_update_loop _, ih (i + 1) _ (by omega) hlt (W.frame _ s' _ _ hst' (Nat.le_succ _) fun b hb o e => ?_) hS3 fun s'' hm'' hS'' => ?_⟩
    · rw [hsb.2 b (fun h : b = S => hSf (by rw [← h]; exact hb))]; exact e
    · refine hR s'' (Moved.trans W.gtrans ((hm.mono hsub).then_heap (Nat.le_succ _) fun b o hb e => ?_) hm'') hS''
      rw [hsb.2 b (fun h : b = S => hb (by rw [h]; exact List.mem_cons_self))]; exact e
theorem setS_new_at {h : Heap} {a : Addr} (ho : h.get? a = some { cls := .type "set", dict := none, data := .set #[] 0 (.fresh 0 0 (!w.params.followText "set-order")) }) : SetS w h a (fun _ => False) :=
  ⟨_, #[], 0, _, ho, ⟨rfl, rfl, rfl⟩, rfl, ⟨(fun e he => by simp at he), (by simp), (by decide), (by rfl), List.Pairwise.nil, by
    show _ ∨ (!w.params.followText "set-order") = true
    cases w.params.followText "set-order"
    · exact .inr rfl
    · exact .inl rfl⟩, fun k => by simp⟩
set_option maxHeartbeats 3200000 in
theorem call_set_strs {l : Addr} {items : Array Value} {xs : List Str} {Q : Value → Shared → Prop} (hh : A.handled = none) (hl : s.heap.IsList l items) (hi : StrsAre items.toList xs) (hb : xs.length + 1 < scanBound)
    (h : ∀ (h' : Heap) (tk : Nat), SetS w h' s.heap.objs.size (fun j => j ∈ xs) → (∀ b o, s.heap.get? b = some o → h'.get? b = some o) → Q (.ref s.heap.objs.size) { s with heap := h', toks := tk }) :
    wpAny (model P w) A (call (.type "set") [.ref l]) Q E s := by
  have hisz : items.size = xs.length := by rw [← StrsAre.len_eq hi, Array.length_toList]
  obtain ⟨c, tl, hmro⟩ := F.called_set.mro
  have hmade := F.called_set.made
  have hsub := F.called_set.sub
  refine wpAny_call (codeAny_of_tree ?_)
  show wpAny _ _ (callAny (.type "set") _) _ _ _
  refine wpAny_pure ⟨Code.quiet_builtin _ (by decide +kernel), codeAny_builtin F.entry_type_call ?_⟩
  rw [Around.under_plain (weight_type_call_type "set" [.ref l] []) rfl]
  have h1 := F.called_set.notType
  have h2 := F.called_set.canCreate
  have hct := F.typeCall_set_1 (.ref l)
  repeat (any_goals (first | assumption | wp_step))

  refine codeAny_mono (code_set_led1 (.ref l) (E := E) (Q₁ := fun obj s₁ => obj = .ref s.heap.objs.size ∧ s₁ = { s with heap := s.heap.push { cls := .type "set", dict := none, data := .set #[] 0 (.fresh 0 0 (!w.params.followText "set-order")) } }) ⟨rfl, rfl⟩) fun r s₁ hr => ?_
  cases r with
  | error e => exact hr
  | ok fl =>
    cases fl with
    | ret obj =>
      obtain ⟨rfl, rfl⟩ := hr
      have hS : (s.heap.push { cls := .type "set", dict := none, data := .set #[] 0 (.fresh 0 0 (!w.params.followText "set-order")) }).get? s.heap.objs.size = some { cls := .type "set", dict := none, data := .set #[] 0 (.fresh 0 0 (!w.params.followText "set-order")) } := Heap.get?_push_size _ rfl
      have hT : Shared.TypeIs { s with heap := s.heap.push { cls := .type "set", dict := none, data := .set #[] 0 (.fresh 0 0 (!w.params.followText "set-order")) } } (.ref s.heap.objs.size) "set" := ⟨_, hS, rfl⟩
      have hli := F.called_set.init.lookup
      have hbi := F.called_set.init.bind (.ref s.heap.objs.size)
      repeat (any_goals (first | assumption | wp_step))

      refine codeAny_mono (codeAny_call_builtin (R := wants (fun r s₂ => r = .none ∧ ∃ h' tk, s₂ = { s with heap := h', toks := tk } ∧ SetS w h' s.heap.objs.size (fun j => j ∈ xs) ∧
          (∀ b o, s.heap.get? b = some o → h'.get? b = some o)) E) F.called_set.init.plain F.entry_set_init (check_set_init_1 hT ?_)) fun r₂ s₂ hr₂ => ?_
      · obtain ⟨ol, hol, hcl, nl, hdl⟩ := hl
        obtain ⟨ocls, odict, odata, oslots⟩ := ol
        simp only at hcl hdl
        subst hcl; subst hdl
        have hol' : (s.heap.push { cls := .type "set", dict := none, data := .set #[] 0 (.fresh 0 0 (!w.params.followText "set-order")) }).get? l = some { cls := .type "list", dict := odict, data := .seq items nl, slots := oslots } := Heap.get?_push_of_some _ hol
        have hsls := F.sub_list_set
        have hslf := F.sub_list_frozenset
        have hne : (Value.type "list" == Value.type "dict") = false := by decide
        have hl1 : (s.heap.push { cls := .type "set", dict := none, data := .set #[] 0 (.fresh 0 0 (!w.params.followText "set-order")) }).IsList l items := ⟨_, hol', rfl, nl, rfl⟩
        unfold Builtin.«set.__init__» noKeywords Builtin.Frozenset.updateFrom
        generalize hPI : pyIter = PI
        wp_walk
        subst hPI

        refine wpAny_pyIter_list hl1 ?_
        refine wpAny_bind (wpAny_runValue ?_)
        have hlS : l < s.heap.objs.size := Heap.lt_size hol
        have hh3 : A.in1.in1.in1.handled = none := by simp [hh]
        have hneI : l ≠ (s.heap.push { cls := .type "set", dict := none, data := .set #[] 0 (.fresh 0 0 (!w.params.followText "set-order")) }).objs.size := by
          rw [Heap.size_push]; exact Nat.ne_of_lt (Nat.lt_succ_of_lt hlS)
        have hSf : s.heap.objs.size ∉ [(s.heap.push { cls := .type "set", dict := none, data := .set #[] 0 (.fresh 0 0 (!w.params.followText "set-order")) }).objs.size, l] := by
          rw [Heap.size_push]; simp only [List.mem_cons, List.mem_singleton, List.not_mem_nil, or_false, not_or]
          exact ⟨Nat.ne_of_lt (Nat.lt_succ_self _), Nat.ne_of_gt hlS⟩
        have hval : ∀ (i : Nat) (v : Value), items[i]? = some v → ∃ k t, xs[i]? = some k ∧ v = .str k t := fun i v hv => by
          have hi2 : i < xs.length := by rw [← hisz]; exact (Array.getElem?_eq_some_iff.mp hv).1
          obtain ⟨t, e⟩ := SS.strs_at hi i v (by rw [Array.getElem?_toList]; exact hv)
          refine ⟨xs[i], t, List.getElem?_eq_getElem hi2, ?_⟩
          rw [e, List.getD_eq_getElem?_getD, List.getElem?_eq_getElem hi2] <;> rfl
        refine set_update_strs ((Walks.list hh3 _ l hneI items).toS) s.heap.objs.size
          hSf xs hisz hb hval (items.size - 0) 0 _ (by omega) (Nat.zero_le _)
          ⟨⟨_, Heap.get?_push_size _ rfl, rfl, rfl⟩, (hl1.push _)⟩ ?hS0 ?hR
        case hS0 =>
          have hget := Heap.get?_push_of_some { cls := .type "list_iterator", data := .fields #[.ref l, .int 0 0] } hS
          have e : (fun j => j ∈ xs.take 0) = fun (_ : Str) => False := funext fun j => by simp
          rw [e]
          exact setS_new_at hget
        case hR =>
          intro s' hm hS'
          obtain ⟨h', g2, d', tk', os'⟩ := s'
          have eg : g2 = s.gens := hm.gens
          have ed : d' = s.drawn := hm.drawn
          have eo : os' = s.os := hm.os
          subst eg; subst ed; subst eo
          show wpAny _ _ _ _ _ _
          refine wpAny_pure ?_
          show wpAny _ _ (ret Value.none) _ _ _
          refine wpAny_pure ⟨rfl, h', tk', rfl, hS', fun b o e => ?_⟩
          have hb0 : b < s.heap.objs.size := Heap.lt_size e
          have hb1 : b ≠ s.heap.objs.size := Nat.ne_of_lt hb0
          have hb2 : b ≠ (s.heap.push { cls := .type "set", dict := none, data := .set #[] 0 (.fresh 0 0 (!w.params.followText "set-order")) }).objs.size := by
            rw [Heap.size_push]; exact Nat.ne_of_lt (Nat.lt_succ_of_lt hb0)
          exact hm.heap b o (by simp only [List.mem_cons, List.mem_singleton, List.not_mem_nil, or_false, not_or]; exact ⟨hb1, hb2⟩) (Heap.get?_push_of_some _ (Heap.get?_push_of_some _ e))

      · cases r₂ with
        | error e => exact hr₂
        | ok fl₂ =>
          cases fl₂ with
          | ret r =>
            obtain ⟨rfl, h', tk, rfl, hS', hk'⟩ := hr₂
            repeat (any_goals (first | assumption | wp_step))
            exact h _ _ hS' hk'
          | _ => exact hr₂.elim
    | _ => exact hr.elim
end
/-! ### ascending, each once -/
section
variable {α : Type} [SO α] [DecidableEq α]
def insU (a : α) : List α → List α
  | [] => [a]
  | x :: xs => if a = x then x :: xs else if SO.lt a x = true then a :: x :: xs else x :: insU a xs
def setF (xs : List α) : List α := xs.foldr insU []
theorem insU_mem {a k : α} : ∀ {xs : List α}, k ∈ insU a xs ↔ k = a ∨ k ∈ xs
  | [] => by simp [insU]
  | x :: xs => by
    unfold insU
    by_cases e : a = x
    · rw [if_pos e]; simp [e]
    · rw [if_neg e]
      by_cases l : SO.lt a x = true
      · rw [if_pos l]; simp
      · rw [if_neg l, List.mem_cons, insU_mem, List.mem_cons]
        constructor
        · rintro (h | h | h)
          · exact .inr (.inl h)
          · exact .inl h
          · exact .inr (.inr h)
        · rintro (h | h | h)
          · exact .inr (.inl h)
          · exact .inl h
          · exact .inr (.inr h)
theorem insU_asc {a : α} : ∀ {xs : List α}, Asc xs → Asc (insU a xs)
  | [], _ => List.pairwise_singleton _ _
  | x :: xs, h => by
    obtain ⟨h1, h2⟩ := List.pairwise_cons.mp h
    unfold insU
    by_cases e : a = x
    · rw [if_pos e]; exact h
    · rw [if_neg e]
      by_cases l : SO.lt a x = true
      · rw [if_pos l]
        refine List.pairwise_cons.mpr ⟨fun y hy => ?_, h⟩
        rcases List.mem_cons.mp hy with z | z
        · rw [z]; exact l
        · exact SO.tr _ _ _ l (h1 y z)
      · rw [if_neg l]
        refine List.pairwise_cons.mpr ⟨fun y hy => ?_, insU_asc h2⟩
        rcases insU_mem.mp hy with z | z
        · subst z
          rcases SO.tri x y with q | q | q
          · exact q
          · exact absurd q.symm e
          · exact absurd q l
        · exact h1 y z
theorem setF_asc : ∀ xs : List α, Asc (setF xs)
  | [] => List.Pairwise.nil
  | x :: xs => insU_asc (setF_asc xs)
theorem setF_mem {k : α} : ∀ {xs : List α}, k ∈ setF xs ↔ k ∈ xs
  | [] => Iff.rfl
  | x :: xs => by
    show k ∈ insU x (setF xs) ↔ _
    rw [insU_mem, setF_mem, List.mem_cons]
theorem setF_of {xs ys : List α} (h : Asc ys) (m : ∀ k, k ∈ ys ↔ k ∈ xs) : ys = setF xs := asc_unique h (setF_asc xs) fun k => (m k).trans setF_mem.symm
theorem setF_len (xs : List α) : (setF xs).length ≤ xs.length := asc_len (setF_asc xs) fun k hk => setF_mem.mp hk
theorem setF_le {xs ys : List α} (h : ∀ x ∈ xs, x ∈ ys) : (setF xs).length ≤ ys.length := asc_len (setF_asc xs) fun k hk => h k (setF_mem.mp hk)
theorem setF_nodup {xs : List α} : (setF xs).length = xs.length ↔ xs.Nodup := by
  constructor
  · intro h
    induction xs with
    | nil => exact List.nodup_nil
    | cons x xs ih =>
      have l := setF_len xs
      have e : (setF (x :: xs)).length = xs.length + 1 := h
      have hx : x ∉ xs := fun z => by
        have q : (setF (x :: xs)).length ≤ (setF xs).length := setF_le fun y hy => (List.mem_cons.mp hy).elim (fun e => setF_mem.mpr (e ▸ z)) fun m => setF_mem.mpr m
        omega
      have q : (setF (x :: xs)).length ≤ (x :: setF xs).length := setF_le fun y hy => (List.mem_cons.mp hy).elim (fun e => by rw [e]; exact List.mem_cons_self) fun m => List.mem_cons_of_mem _ (setF_mem.mpr m)
      rw [List.length_cons] at q
      exact List.nodup_cons.mpr ⟨hx, ih (by omega)⟩
  · intro h
    have a := setF_len xs
    have b := nodup_len h fun x hx => (setF_mem (xs := xs)).mpr hx
    omega
end
theorem rising_srt : ∀ (xs : List Str) (p : Str), risingS p xs = true → (∀ y ∈ xs, SO.lt y p = false) ∧ Srt xs
  | [], p, _ => ⟨fun y hy => (by cases hy), List.Pairwise.nil⟩
  | x :: xs, p, h => by
    unfold risingS at h
    simp only [Bool.and_eq_true, Bool.not_eq_true'] at h
    obtain ⟨h1, h2⟩ := h
    obtain ⟨i1, i2⟩ := rising_srt xs x h2
    have h1 : SO.lt x p = false := by rw [ltCps_eq, lt_strs] at h1; exact h1
    refine ⟨fun y hy => ?_, List.pairwise_cons.mpr ⟨i1, i2⟩⟩
    rcases List.mem_cons.mp hy with z | z
    · rw [z]; exact h1
    · have a := i1 y z
      cases q : SO.lt y p with
      | false => rfl
      | true =>
        rcases SO.tri y x with r | r | r
        · rw [a] at r; cases r
        · rw [r, h1] at q; cases q
        · have := SO.tr _ _ _ r q
          rw [h1] at this; cases this
theorem sortedS_srt {xs : List Str} (h : sortedS xs = true) : Srt xs := by
  cases xs with
  | nil => exact List.Pairwise.nil
  | cons x xs =>
    obtain ⟨a, b⟩ := rising_srt xs x h
    exact List.pairwise_cons.mpr ⟨a, b⟩
/-! ### len, sorted -/
section
variable {P : Program} {w : World} {A : Around} {E : Value → Shared → Prop} {s : Shared} {a : Addr}
theorem MemS.strs {es : Array (Int × Value)} {t : SetTable} (M : MemS w es t) {vs : List Value} (p : vs.Perm (es.toList.map (·.2))) : ∃ zs : List Str, StrsAre vs zs ∧ zs.Perm (es.toList.map keyS) := by
  have h : ∀ v ∈ vs, ∃ k t, v = Value.str k t := fun v hv => by
    obtain ⟨e, he, q⟩ := List.mem_map.mp (p.mem_iff.mp hv)
    obtain ⟨k, t, h1, _⟩ := M.good e he
    exact ⟨k, t, by rw [← q]; exact h1⟩
  refine ⟨vs.map fun v => keyS (0, v), ?_, ?_⟩
  · clear p
    induction vs with
    | nil => exact .nil
    | cons v vs ih =>
      obtain ⟨k, t, rfl⟩ := h v List.mem_cons_self
      exact .cons k t (ih fun u hu => h u (List.mem_cons_of_mem _ hu))
  · have q := p.map fun v => keyS (0, v)
    rw [List.map_map] at q
    exact q
theorem sorted_setS {xs : List Str} {Q : Value → Shared → Prop} (R : SetS w s.heap a (fun j => j ∈ xs)) (hh : A.handled = none) (hL : (setF xs).length ≤ sizeLine)
    (hQ : ∀ s' p (out : Array Value) (c : Nat), (∀ b o, s.heap.get? b = some o → s'.heap.get? b = some o) → s'.gens = s.gens → s'.os = s.os → s.heap.objs.size ≤ p →
      s'.heap.get? p = some (seqObj "list" out c) → StrsAre out.toList (setF xs) → Q (.ref p) s') :
    wpAny (model P w) A (call (.builtin "sorted") [.ref a]) Q E s := by
  obtain ⟨o, es, ep, t, ho, hex, hd, M, hm⟩ := R
  refine Calls.call_function_entry kind_sorted plain_sorted entry_sorted (args_sorted1 _) ?_
  unfold Builtin.«sorted»
  refine wpAny_bind (m := checkCount "sorted" 1 1 _) (wpAny_pure ?_)
  refine wpAny_bind (collect_set (A := A.in1) hh ⟨o, ho, hex.1, hd⟩ M.fit M.few M.ris M.led fun s1 vs k1 hz g1 o1 pm => ?_)
  obtain ⟨zs, hS, hp⟩ := M.strs pm
  have el : (setF xs).length = vs.length := by
    have e1 : (setF xs).length = (es.toList.map keyS).length := Nat.le_antisymm (nodup_len (setF_asc xs).nodup fun k hk => (hm k).mp (setF_mem.mp hk)) (nodup_len M.nd fun k hk => setF_mem.mpr ((hm k).mpr hk))
    rw [e1, List.length_map, pm.length_eq, List.length_map]
  refine wpAny_bind (wpAny_newList ?_ (by rw [← el]; exact hL))
  have hoL : (s1.heap.push (seqObj "list" vs.toArray 0)).get? s1.heap.objs.size = some (seqObj "list" vs.toArray 0) := Heap.get?_push_size _ rfl
  refine wpAny_bind (wpAny_holding (wpAny_call_entry slot_list_sort ⟨_, hoL, rfl⟩ entry_list_sort (list_sort_treeKAny strKind_oneLt hoL hS.keysOf (fun v₁ v₂ rest e => keyKind_strs (by rw [← e]; exact hS)) (by rw [← el]; exact hL) fun st' q1 q2 => ⟨_, rfl, ?_⟩) (args_list_sort _)))
  obtain ⟨ys, a1, a2, a3⟩ := sorted_out_str hS q1 q2
  generalize (arrOf st').map (·.2) = out at a1 ⊢
  obtain ⟨c, hc⟩ := sortedHeap_at (vs := vs) (out := out) hoL
  have pn : ys.Perm (es.toList.map keyS) := a2.trans hp
  have ey : ys = setF xs := setF_of ((sortedS_srt a3).asc (pn.nodup_iff.mpr M.nd)) fun k => by rw [pn.mem_iff, ← hm k]
  rw [ey] at a1
  refine wpAny_pure ⟨_, rfl, hQ _ s1.heap.objs.size out c (fun b u e => ?_) g1 o1 hz hc a1⟩
  have q := k1 b u e
  have hlt := Heap.lt_size q
  show (sortedHeap (s1.heap.push (seqObj "list" vs.toArray 0)) s1.heap.objs.size vs out).get? b = some u
  rw [sortedHeap_old (Nat.ne_of_lt hlt) (by rw [size_push']; exact Nat.lt_succ_of_lt hlt)]
  exact Heap.get?_push_of_some _ q
end
/-! ### as tracked things -/
def SetSO (w : World) (a : Addr) (xs : List Str) : HO := .ext fun h => SetS w h a (fun j => j ∈ xs)
section
variable {X : Cx}
theorem setSO_new {w : World} {P : Program} {H : Hp} {h : Heap} {a : Addr} {xs : List Str} (R : SetS w h a (fun j => j ∈ xs)) : ObjOk P w H h a (SetSO w a xs) := by
  have ⟨o, _, _, _, ho, _⟩ := R
  exact ⟨R, ⟨o, ho⟩, fun h1 h2 p k => SetS.at p k⟩
theorem setSO_get {pins : List (Addr × Obj)} {σ : L2.St} {H : Hp} {s : Shared} {a : Addr} {xs : List Str} (I : Inv X pins σ H s) (ha : H a = some (SetSO X.w a xs)) : SetS X.w s.heap a (fun j => j ∈ xs) := (I.hok a _ ha).1
/-- set(xs) -/
def rSetS (K : KW) : List V → Hp → VK → Prop := fun vs H Q => ∃ (p : Addr) (xs : List Str), vs = [V.ref p] ∧ SqL K.1 H p (xs.map V.str) ∧ xs.length ≤ 1000 ∧ ∀ a, H a = none → Q (.ref a) (upd H a (SetSO K.2 a xs))
theorem cr_setS (hc : X.calm = true) : CallR X (.type "set") (rSetS (kw X)) := by
  intro pins s σ H vs us Q I r h
  obtain ⟨p, xs, rfl, hs, hl, q⟩ := h
  obtain ⟨its, rv, hli, _⟩ := I.list hs
  rw [Vals.ref1 r]
  refine call_set_strs (I.ok.hd hc) hli.isList (xs := xs) (by simpa using rv.strs) (by unfold scanBound; omega) fun h' tk hS hk => ?_
  exact ⟨.ref _, upd H s.heap.objs.size (SetSO X.w s.heap.objs.size xs), I.laid (t' := tk) hk (Nat.le_refl _) (setSO_new hS), rfl, q _ (I.hok.fresh (Nat.le_refl _))⟩
/-- sorted(set) -/
def rSortedSetS (w : World) : List V → Hp → VK → Prop := fun vs H Q => ∃ (a : Addr) (xs : List Str), vs = [V.ref a] ∧ H a = some (SetSO w a xs) ∧ xs.length ≤ 1000 ∧ ∀ p, H p = none → Q (.ref p) (upd H p (.lst ((setF xs).map V.str)))
theorem cr_sortedSetS (hc : X.calm = true) : CallR X (.builtin "sorted") (rSortedSetS X.w) := by
  intro pins s σ H vs us Q I r h
  obtain ⟨a, xs, rfl, ha, hl, q⟩ := h
  have R := setSO_get I ha
  have fl := setF_len xs
  have hz : (setF xs).length ≤ sizeLine := by rw [sizeLine_eq]; omega
  rw [Vals.ref1 r]
  refine sorted_setS R (I.ok.hd hc) hz fun s' p out c k g o hp hg hS => ?_
  have hlen : ((setF xs).map V.str).length ≤ sizeLine := by rw [List.length_map]; exact hz
  have hn : H p = none := I.hok.fresh hp
  have J : Inv X pins σ (upd H p (.lst ((setF xs).map V.str))) { s with heap := s'.heap, gens := s'.gens, drawn := s'.drawn, toks := s'.toks } :=
    I.call (ch := []) (Un.laid k hp hn) (I.hok.laid k hp ⟨hlen, out.toList, c, vals_of_strs hS, hg⟩) (by rw [g]; exact I.bare) (fun _ z => nomatch z)
  have e : s' = { s with heap := s'.heap, gens := s'.gens, drawn := s'.drawn, toks := s'.toks } := by
    cases s'
    cases s
    cases o
    rfl
  rw [e]
  exact ⟨.ref p, _, J, rfl, q p hn⟩
/-- len(set) -/
def rLenSetS (w : World) : List V → Hp → VK → Prop := fun vs H Q => ∃ (a : Addr) (xs : List Str), vs = [V.ref a] ∧ H a = some (SetSO w a xs) ∧ xs.length ≤ 1000 ∧ Q (.int (setF xs).length) H
theorem cr_lenSetS : CallR X (.builtin "len") (rLenSetS X.w) := by
  intro pins s σ H vs us Q I r h
  obtain ⟨a, xs, rfl, ha, hl, q⟩ := h
  obtain ⟨o, es, ep, t, ho, hex, hd, M, hm⟩ := setSO_get I ha
  have fl := setF_len xs
  have e1 : (setF xs).length = es.size := by
    have e1 : (setF xs).length = (es.toList.map keyS).length := Nat.le_antisymm (nodup_len (setF_asc xs).nodup fun k hk => (hm k).mp (setF_mem.mp hk)) (nodup_len M.nd fun k hk => setF_mem.mpr ((hm k).mpr hk))
    rw [e1, List.length_map, Array.length_toList]
  rw [Vals.ref1 r]
  refine call_len_set ho hex hd M.fit (by omega) ⟨.int (setF xs).length, H, I.tok _, ⟨_, by rw [e1]⟩, q⟩
end
end DL

/-! DL32: sorted(set(xs)), len(set(xs)), sorted(d). -/
namespace DL
open PySem PySem.Spec PyProof.Rows L2
section
variable {K : KW} {G H : Hp} {X : Cx} {Z : Wish} {p p2 pos pos2 : Pos} {e : Expr} {u : TAd}
def rSortSet (K : KW) : List V → Hp → VK → Prop := fun vs H Q => rSetS K vs H fun v H1 => rSortedSetS K.2 [v] H1 Q
def rLenSet (K : KW) : List V → Hp → VK → Prop := fun vs H Q => rSetS K vs H fun v H1 => rLenSetS K.2 [v] H1 Q
def gSortSet (ws : List W) (Q : W → Prop) : Prop := match ws with
  | [w] => ∃ xs : List Str, asL w = some (xs.map .str) ∧ xs.length ≤ 1000 ∧ Q (.l ((setF xs).map .str))
  | _ => False
def gLenSet (ws : List W) (Q : W → Prop) : Prop := match ws with
  | [w] => ∃ xs : List Str, asL w = some (xs.map .str) ∧ xs.length ≤ 1000 ∧ Q (.d (.int (setF xs).length))
  | _ => False
theorem cd_sortSet : CallD K (rSortSet K) gSortSet := by
  intro G0 H0 Hx G H σ ρ vs ws Q' Q E r q k
  unfold gSortSet at q
  split at q
  · obtain ⟨v, rfl, r1⟩ := r.one
    obtain ⟨xs, e1, l, q⟩ := q
    obtain ⟨p, us, rfl, h1, z, a⟩ := r1.asL E e1
    have oks := a.strOk
    rw [a.strs] at h1
    refine ⟨p, xs, rfl, h1, l, fun b hb => ⟨b, xs, rfl, upd_same, l, fun c hc => ?_⟩⟩
    have u1 : Up G H G (upd H b (SetSO K.2 b xs)) := Up.newH E.gh hb
    have u2 := u1.trans (Up.newH (o := .lst ((setF xs).map V.str)) (E.to u1).gh hc)
    have cn : H c = none := u1.h.back hc
    refine k _ (.l ((setF xs).map .str)) _ _ u2 ⟨c, (setF xs).map V.str, rfl, cn, E.gh.back cn, trivial, upd_same, ?_, IsAll.ofStrs fun y hy => oks y (setF_mem.mp hy)⟩ q
    have := setF_len xs
    rw [List.length_map, sizeLine_eq]; omega
  · exact q.elim
theorem cd_lenSet : CallD K (rLenSet K) gLenSet := by
  intro G0 H0 Hx G H σ ρ vs ws Q' Q E r q k
  unfold gLenSet at q
  split at q
  · obtain ⟨v, rfl, r1⟩ := r.one
    obtain ⟨xs, e1, l, q⟩ := q
    obtain ⟨p, us, rfl, h1, z, a⟩ := r1.asL E e1
    rw [a.strs] at h1
    refine ⟨p, xs, rfl, h1, l, fun b hb => ⟨b, xs, rfl, upd_same, l, ?_⟩⟩
    exact k _ (.d (.int _)) _ _ (Up.newH E.gh hb) (.int _) q
  · exact q.elim
theorem d_sortSet (hc : X.calm = true) (m1 : X.mg "sorted" = none) (m2 : X.mg "set" = none) (ha : PDA X Z [e] u)
    (g1 : Gl X "sorted" := by rfl) (g2 : Gl X "set" := by rfl) (v1 : bootBuiltins "sorted" = some (.builtin "sorted") := by decide +kernel) (v2 : bootBuiltins "set" = some (.type "set") := by decide +kernel)
    (he : starEach [e] X.env = (false, eval e X.env) :: starEach [] X.env := by rfl) (hpl : (backTo pos2 (starEach [] X.env)).any (·.1) = false := by rfl)
    (he2 : starEach [Expr.Call (.Name "set" p2) [e] [] pos2] X.env = (false, eval (.Call (.Name "set" p2) [e] [] pos2) X.env) :: starEach [] X.env := by rfl) (hpl2 : (backTo pos (starEach [] X.env)).any (·.1) = false := by rfl) :
    PD X Z (.Call (.Name "sorted" p) [.Call (.Name "set" p2) [e] [] pos2] [] pos) (dCB gSortSet u) := by
  obtain ⟨ts, pa, sa⟩ := ha
  have pe := pe_callB (x := "sorted") (p := p) (pos := pos) (cr_sortedSetS hc) g1 m1 v1 (pa_cons (pe_callTy (x := "set") (p := p2) (pos := pos2) (cr_setS hc) g2 m2 v2 pa (by decide) (by decide) he hpl) pa_nil he2) (by decide) (by decide) he2 hpl2
  have e1 : tCB (rSortedSetS X.w) (tCons (tCB (rSetS (kw X)) ts) tNil) = tCB (rSortSet (kw X)) ts := rfl
  rw [e1] at pe
  exact ⟨_, pe, snd_cb cd_sortSet sa⟩
theorem d_lenSet (hc : X.calm = true) (m1 : X.mg "len" = none) (m2 : X.mg "set" = none) (ha : PDA X Z [e] u)
    (g1 : Gl X "len" := by rfl) (g2 : Gl X "set" := by rfl) (v1 : bootBuiltins "len" = some (.builtin "len") := by decide +kernel) (v2 : bootBuiltins "set" = some (.type "set") := by decide +kernel)
    (he : starEach [e] X.env = (false, eval e X.env) :: starEach [] X.env := by rfl) (hpl : (backTo pos2 (starEach [] X.env)).any (·.1) = false := by rfl)
    (he2 : starEach [Expr.Call (.Name "set" p2) [e] [] pos2] X.env = (false, eval (.Call (.Name "set" p2) [e] [] pos2) X.env) :: starEach [] X.env := by rfl) (hpl2 : (backTo pos (starEach [] X.env)).any (·.1) = false := by rfl) :
    PD X Z (.Call (.Name "len" p) [.Call (.Name "set" p2) [e] [] pos2] [] pos) (dCB gLenSet u) := by
  obtain ⟨ts, pa, sa⟩ := ha
  have pe := pe_callB (x := "len") (p := p) (pos := pos) cr_lenSetS g1 m1 v1 (pa_cons (pe_callTy (x := "set") (p := p2) (pos := pos2) (cr_setS hc) g2 m2 v2 pa (by decide) (by decide) he hpl) pa_nil he2) (by decide) (by decide) he2 hpl2
  have e1 : tCB (rLenSetS X.w) (tCons (tCB (rSetS (kw X)) ts) tNil) = tCB (rLenSet (kw X)) ts := rfl
  rw [e1] at pe
  exact ⟨_, pe, snd_cb cd_lenSet sa⟩
end
/-! ### sorted(d), keys that are texts -/
section
variable {P : Program} {w : World} {A : Around} {E : Value → Shared → Prop} {s : Shared} {T : String} {r d : Addr} {n : Nat} {Pv : Nat → Value → Prop} {OK : Heap → Prop}
theorem src_collect {Q : List Value → Shared → Prop} (S : PySem.W.KdlSrc P w T r d n Pv OK) (hh : A.handled = none) (hok : OK s.heap) (hn : n ≤ sizeLine)
    (hQ : ∀ (h' : Heap) (tk : Nat) (acc : Array Value), (∀ b o, s.heap.get? b = some o → h'.get? b = some o) → s.heap.objs.size < h'.objs.size → ItemsOf Pv acc n → Q acc.toList { s with heap := h', toks := tk }) :
    wpAny (model P w) A (collect (.ref r)) Q E s := by
  have hlt := S.there _ hok
  unfold collect
  refine wpAny_bind (wpAny_runValue (codeAny_builtin F.entry_proto_collect ?_))
  rw [Around.under_plainId F.plain_proto_collect _]
  show wpAny _ A.in1 (newList [] >>= fun l => again (.builtin "list.__iadd__" ⟨[l, .ref r], []⟩)) _ _ s
  refine wpAny_bind (wpAny_newObj_type ?_)
  refine wpAny_pure ⟨plainId_quiet F.plain_list_iadd _, codeAny_builtin F.entry_list_iadd ?_⟩
  rw [Around.under_plainId F.plain_list_iadd _]
  have hS : (s.heap.push { cls := .type "list", data := .seq ([] : List Value).toArray }).get? s.heap.objs.size = some { cls := .type "list", data := .seq #[] 0 } := Heap.get?_push_size _ rfl
  show wpAny _ A.in1 (Builtin.List.listExtendWith (.ref s.heap.objs.size) (.ref r) (.ref s.heap.objs.size)) _ _ _
  have key := PySem.W.kdl_extend (A := A) (s := { s with heap := s.heap.push { cls := .type "list", data := .seq ([] : List Value).toArray } })
    (R := fun (q : Result) (s' : Shared) => ∃ (h' : Heap) (tk : Nat) (acc' : Array Value) (c' : Nat), q = .ok (.ret (.ref s.heap.objs.size)) ∧ s' = { s with heap := h', toks := tk } ∧
      (∀ b o, s.heap.get? b = some o → h'.get? b = some o) ∧ h'.get? s.heap.objs.size = some { cls := .type "list", dict := none, data := .seq acc' c', slots := #[] } ∧ ItemsOf Pv acc' n)
    S hh (S.keep _ _ hok fun b _ o e => Heap.get?_push_of_some _ e) s.heap.objs.size (Nat.ne_of_gt hlt.1) (Nat.ne_of_gt hlt.2) (.ref s.heap.objs.size) 0 hS
    (fun h' tk acc' c' hk hS' hacc => ⟨h', tk, acc', c', rfl, rfl, fun b o e => hk b o (Nat.ne_of_lt (Heap.lt_size e)) (Heap.get?_push_of_some _ e), hS', hacc⟩) hn
  refine wpAny_mono key (fun fin s' x => ?_) fun e s' x => ?_
  · cases fin with
    | done f =>
      obtain ⟨h', tk, acc', c', e, rfl, hk, hS', hacc⟩ := x
      cases e
      show wpAny _ A (load s.heap.objs.size >>= _) _ _ _
      exact wpAny_bind (wpAny_load hS' (wpAny_pure (hQ h' tk acc' hk (Heap.lt_size hS') hacc)))
    | again c₁ =>
      refine ⟨x.1, codeAny_mono x.2 fun q s₂ y => ?_⟩
      obtain ⟨h', tk, acc', c', rfl, rfl, hk, hS', hacc⟩ := y
      show wpAny _ A (load s.heap.objs.size >>= _) _ _ _
      exact wpAny_bind (wpAny_load hS' (wpAny_pure (hQ h' tk acc' hk (Heap.lt_size hS') hacc)))
  · obtain ⟨_, _, _, _, e', _⟩ := x
    cases e'
end
section
variable {X : Cx} {K : KW}
def rSortD : List V → Hp → VK → Prop := fun xs H Q => ∃ x a o vals, ∃ ys : List Str, xs = [x] ∧ RawAt H x a o (ys.map V.str) vals ∧ ∀ (zs : List Str) (p : Addr), zs.Perm ys → Srt zs → H p = none → Q (.ref p) (upd H p (.lst (zs.map V.str)))
theorem cr_sortD (hc : X.calm = true) : CallR X (.builtin "sorted") rSortD := by
  intro pins s σ H xs us Q I r h
  obtain ⟨x, a, o, vals, ys, rfl, ⟨rfl, h1, sm, es, ep, exd, hod, hv, hw, sz⟩, q⟩ := h
  obtain ⟨u, rfl, rx⟩ := r.one
  cases rx
  have hg := raw_at I h1
  have hl : ys.length = es.size := by have := hv.length; rwa [List.length_map, List.length_map, Array.length_toList] at this
  refine Calls.call_function_entry kind_sorted plain_sorted entry_sorted (args_sorted1 _) ?_
  unfold Builtin.«sorted»
  refine wpAny_bind (m := checkCount "sorted" 1 1 _) (wpAny_pure ?_)
  refine wpAny_bind (src_collect (A := X.A.in1) (kdl_raw sm exd hod) (I.ok.hd hc) hg sz fun h1 tk acc k1 hz it => ?_)
  have ea : acc.toList = es.toList.map (·.key) := by
    have hl' : acc.toList.length = es.size := by rw [Array.length_toList, it.1]
    apply List.ext_getElem?
    intro j
    rw [List.getElem?_map]
    cases hj : acc.toList[j]? with
    | none =>
      have h1 := List.getElem?_eq_none_iff.mp hj
      rw [List.getElem?_eq_none (by rw [Array.length_toList]; omega)]
      rfl
    | some v =>
      obtain ⟨en, hen, hv⟩ := it.2 j v (by rw [← Array.getElem?_toList]; exact hj)
      rw [Array.getElem?_toList, hen, hv]
      rfl
  have hS : StrsAre acc.toList ys := by rw [ea]; exact hv.strs
  have hal : acc.toList.length ≤ sizeLine := by rw [Array.length_toList, it.1]; exact sz
  refine wpAny_bind (wpAny_newList ?_ hal)
  generalize acc.toList = vs at hS hal ⊢
  have hoL : (h1.push (seqObj "list" vs.toArray 0)).get? h1.objs.size = some (seqObj "list" vs.toArray 0) := Heap.get?_push_size _ rfl
  refine wpAny_bind (wpAny_holding (wpAny_call_entry slot_list_sort ⟨_, hoL, rfl⟩ entry_list_sort (list_sort_treeKAny strKind_oneLt hoL hS.keysOf (fun v₁ v₂ rest e => keyKind_strs (by rw [← e]; exact hS)) hal fun st' q1 q2 => ⟨_, rfl, ?_⟩) (args_list_sort _)))
  obtain ⟨zs, a1, a2, a3⟩ := sorted_out_str hS q1 q2
  generalize (arrOf st').map (·.2) = out at a1 ⊢
  obtain ⟨c, hc2⟩ := sortedHeap_at (vs := vs) (out := out) hoL
  have hzl : (zs.map V.str).length ≤ sizeLine := by rw [List.length_map, a2.length_eq, hl]; exact sz
  refine wpAny_pure ⟨_, rfl, .ref h1.objs.size, _, I.laid (t' := tk) (o := .lst (zs.map V.str)) (fun b u e => ?_) (Nat.le_of_lt hz) ⟨hzl, out.toList, c, vals_of_strs a1, hc2⟩, rfl, q zs _ a2 (sortedS_srt a3) (I.hok.fresh (Nat.le_of_lt hz))⟩
  have q := k1 b u e
  have hlt := Heap.lt_size q
  show (sortedHeap (h1.push (seqObj "list" vs.toArray 0)) h1.objs.size vs out).get? b = some u
  rw [sortedHeap_old (Nat.ne_of_lt hlt) (by rw [size_push']; exact Nat.lt_succ_of_lt hlt)]
  exact Heap.get?_push_of_some _ q
def rSortY (K : KW) : List V → Hp → VK → Prop := fun xs H Q => rSortedS K.1 xs H Q ∨ rSortD xs H Q
def gSortY (ws : List W) (Q : W → Prop) : Prop := match ws with
  | [w] => match asK w with
    | some ks => ∃ ys : List Str, ks = ys.map .str ∧ ∀ zs : List Str, zs.Perm ys → Srt zs → Q (.l (zs.map .str))
    | none => gSort [w] Q
  | _ => False
theorem cd_sortY : CallD K (rSortY K) gSortY := by
  intro G0 H0 Hx G H σ ρ vs ws Q' Q E r q k
  unfold gSortY at q
  split at q
  · split at q
    · rename_i ks e1
      obtain ⟨ys, rfl, q⟩ := q
      obtain ⟨v, rfl, r1⟩ := r.one
      obtain ⟨p, vals, rfl, hd⟩ := r1.asK E e1
      obtain ⟨o, bs, hr, al⟩ := hd.rawAt
      have hz := (rawAt_size hr).1
      have oks := al.strOk
      rw [al.strs] at hr hz
      refine .inr ⟨_, p, o, vals, ys, rfl, hr, fun zs l hp hs hl => k _ (.l (zs.map .str)) G _ (Up.newH E.gh hl) ⟨l, zs.map V.str, rfl, hl, E.gh.back hl, trivial, upd_same, ?_, IsAll.ofStrs fun y hy => oks y (hp.mem_iff.mp hy)⟩ (q zs hp hs)⟩
      rw [List.length_map] at hz ⊢
      rw [hp.length_eq]; exact hz
    · exact .inl (cd_sort G0 H0 Hx G H σ ρ vs _ Q' Q E r q k)
  · exact q.elim
theorem cr_sortY (hc : X.calm = true) : CallR X (.builtin "sorted") (rSortY (kw X)) := cr_sortedS.or (cr_sortD hc)
end
end DL

/-! DL33: variables of joins. -/
namespace DL
open PySem PySem.Spec PyProof.Rows L2
def Term.nm : Term → Option Str
  | .var x => some x
  | .val _ => none
def varsT (us : List Term) : List Str := us.filterMap Term.nm
def varsF (body : List Atom) : List Str := body.flatMap fun a => varsT a.2
theorem varsF_app (a b : List Atom) : varsF (a ++ b) = varsF a ++ varsF b := by unfold varsF; rw [List.flatMap_append]
theorem varsF_snoc (a : List Atom) (b : Atom) : varsF (a ++ [b]) = varsF a ++ varsT b.2 := by rw [varsF_app]; unfold varsF; simp
theorem varsT_snoc (us : List Term) (t : Term) : varsT (us ++ [t]) = varsT us ++ (match t with | .var x => [x] | .val _ => []) := by
  unfold varsT
  rw [List.filterMap_append]
  cases t <;> rfl
theorem varsT_len (us : List Term) : (varsT us).length ≤ us.length := List.length_filterMap_le ..
theorem varsF_len {n : Nat} : ∀ {body : List Atom}, (∀ a ∈ body, a.2.length ≤ n) → (varsF body).length ≤ n * body.length
  | [], _ => Nat.le_refl _
  | a :: body, h => by
    have h1 := h a List.mem_cons_self
    have h2 := varsF_len fun b hb => h b (List.mem_cons_of_mem a hb)
    have h3 := varsT_len a.2
    have e : varsF (a :: body) = varsT a.2 ++ varsF body := rfl
    rw [e, List.length_append, List.length_cons, Nat.mul_add]
    omega
theorem str_map (xs : List Str) : xs.map PyData.str = xs.map Enc.d := rfl
theorem srt_setF {xs ys zs : List Str} (p : zs.Perm ys) (s : Srt zs) (nd : ys.Nodup) (m : ∀ k, k ∈ ys ↔ k ∈ xs) : zs = setF xs := setF_of (s.asc (p.nodup_iff.mpr nd)) fun k => by rw [p.mem_iff, m k]
theorem putT_nd {β : Type} [DecidableEq β] [Enc β] {s : List (Str × β)} {k : Str} {v : β} (h : (s.map (·.1)).Nodup) : ((putT s k v).map (·.1)).Nodup := by
  rw [putT_keys]
  by_cases e : k ∈ s.map (·.1)
  · rw [if_pos e]; exact h
  · rw [if_neg e]; exact List.nodup_append.mpr ⟨h, by simp, fun a ha b hb => by
      have e2 : b = k := by simpa using hb
      rw [e2]; exact fun z => e (z ▸ ha)⟩
theorem putT_mem {β : Type} [DecidableEq β] [Enc β] {s : List (Str × β)} {k x : Str} {v : β} : x ∈ (putT s k v).map (·.1) ↔ x ∈ s.map (·.1) ∨ x = k := by
  rw [putT_keys]
  by_cases e : k ∈ s.map (·.1)
  · rw [if_pos e]
    exact ⟨.inl, fun h => h.elim id fun z => z ▸ e⟩
  · rw [if_neg e, List.mem_append, List.mem_singleton]
theorem dput_tdSB (s : List (Str × Bool)) (k : Str) (b : Bool) : dput (td s) (.str k) (.bool b) = td (putT s k b) := dput_td (k := k) (v := b) rfl rfl
theorem nodup_setF {α : Type} [SO α] [DecidableEq α] {xs ys : List α} (h : xs.Nodup) (m : ∀ k, k ∈ xs ↔ k ∈ ys) : xs.length = (setF ys).length :=
  Nat.le_antisymm (nodup_len h fun k hk => setF_mem.mpr ((m k).mp hk)) (nodup_len (setF_asc ys).nodup fun k hk => (m k).mpr (setF_mem.mp hk))
end DL

/-! DL34: valuations of a join in a store. -/
namespace DL
open PySem PySem.Spec PyProof.Rows L2
/-- a valuation as data -/
def dE (m : Vals1) : PyData := .dict (td m)
def rowsFor (store : List Fact) (n : Str) : List VRow := (store.filter fun f => decide (f.1 = n)).map (·.2)
def stepA (store : List Fact) (a : Atom) (m : Vals1) : List Vals1 := (rowsFor store a.1).filterMap fun r => bindF (a.2.zip r) m
def fvF (store : List Fact) (body : List Atom) : List Vals1 := body.foldl (fun found a => found.flatMap (stepA store a)) [[]]
theorem fvF_snoc (store : List Fact) (body : List Atom) (a : Atom) : fvF store (body ++ [a]) = (fvF store body).flatMap (stepA store a) := by unfold fvF; rw [List.foldl_append]; rfl
theorem rowsFor_len (store : List Fact) (n : Str) : (rowsFor store n).length ≤ store.length := by unfold rowsFor; rw [List.length_map]; exact List.length_filter_le ..
theorem stepA_len (store : List Fact) (a : Atom) (m : Vals1) : (stepA store a m).length ≤ store.length := Nat.le_trans (List.length_filterMap_le ..) (rowsFor_len ..)
theorem flat_len {α β : Type} {f : α → List β} {n : Nat} : ∀ (xs : List α), (∀ x ∈ xs, (f x).length ≤ n) → (xs.flatMap f).length ≤ xs.length * n
  | [], _ => by simp
  | x :: xs, h => by
    rw [List.flatMap_cons, List.length_append, List.length_cons, Nat.succ_mul]
    have a := h x List.mem_cons_self
    have b := flat_len xs fun y hy => h y (List.mem_cons_of_mem _ hy)
    omega
theorem termsOf_app (a b : List Atom) : termsOf (a ++ b) = termsOf a ++ termsOf b := by unfold termsOf; rw [List.flatMap_append]
def lE (m : Vals1) : PyData := .list (m.map Enc.d)
theorem stepA_app (a : Atom) (m : Vals1) (xs ys : List Fact) : stepA (xs ++ ys) a m = stepA xs a m ++ stepA ys a m := by unfold stepA rowsFor; rw [List.filter_append, List.map_append, List.filterMap_append]
theorem stepA_no {a : Atom} {m : Vals1} {f : Fact} (e : ¬ f.1 = a.1) : stepA [f] a m = [] := by unfold stepA rowsFor; rw [List.filter_cons_of_neg (by simpa using e)]; rfl
theorem stepA_yes {a : Atom} {m : Vals1} {f : Fact} (e : f.1 = a.1) : stepA [f] a m = (bindF (a.2.zip f.2) m).toList := by
  unfold stepA rowsFor; rw [List.filter_cons_of_pos (by simpa using e)]
  show List.filterMap _ [f.2] = _
  cases h : bindF (a.2.zip f.2) m <;> simp [h]
def szF (store : List Fact) : Nat := max 1 store.length
theorem szF_pos (store : List Fact) : 0 < szF store := by unfold szF; omega
theorem szF_le (store : List Fact) : store.length ≤ szF store := by unfold szF; omega
/-- what the walk needs -/
structure StoreFit (store : List Fact) (body : List Atom) : Prop where
  rows : ∀ a ∈ body, ∀ r ∈ rowsFor store a.1, r.length = a.2.length
  wide : (termsOf body).length ≤ 1000
  few : store.length ≤ 1000
  nd : store.Nodup
  many : szF store ^ body.length ≤ 10000000
theorem fvF_len (store : List Fact) : ∀ body : List Atom, (fvF store body).length ≤ szF store ^ body.length := by
  refine snocInd (Nat.le_refl 1) fun body a ih => ?_
  rw [fvF_snoc, List.length_append, List.length_singleton, Nat.pow_succ]
  refine Nat.le_trans (flat_len _ fun m _ => stepA_len store a m) ?_
  exact Nat.mul_le_mul ih (szF_le store)
theorem StoreFit.pre_len {store : List Fact} {body pre post : List Atom} (h : StoreFit store body) (e : body = pre ++ post) : (fvF store pre).length ≤ 10000000 := by
  refine Nat.le_trans (fvF_len store pre) (Nat.le_trans (Nat.pow_le_pow_right (szF_pos store) ?_) h.many)
  rw [e, List.length_append]; omega
theorem fvF_wide (store : List Fact) : ∀ body : List Atom, ∀ m ∈ fvF store body, m.length ≤ (termsOf body).length := by
  refine snocInd (fun m hm => ?_) fun body a ih m hm => ?_
  · have : m = [] := by simpa [fvF] using hm
    rw [this]; exact Nat.zero_le _
  · rw [fvF_snoc] at hm
    obtain ⟨s, hs, hm⟩ := List.mem_flatMap.mp hm
    obtain ⟨r, hr, e⟩ := List.mem_filterMap.mp hm
    have l := bindF_len e
    have l2 := ih s hs
    rw [termsOf_snoc, List.length_append]
    rw [List.length_zip] at l
    omega
/-! ### calls that hand a stable list as it is -/
def argD : W → W
  | .d x => .d x
  | w => argW w
theorem RR.argD {K : KW} {G0 H0 Hs G H : Hp} {σ : L2.St} {ρ : En} {v : V} {w : W} (r : RR K H0 Hs G H v w) (E : DEnv K G0 H0 G H σ ρ) (ok : okA w) : AR K G H v (DL.argD w) := by
  cases w with
  | d y => exact r
  | l xs => exact RR.arg (w := .l xs) r E ok
  | b xs => exact RR.arg (w := .b xs) r E ok
  | r xs => exact RR.arg (w := .r xs) r E ok
  | drw => exact RR.arg (w := .drw) r E ok
  | x y => exact RR.arg (w := .x y) r E ok
theorem RRs.argsD {K : KW} {G0 H0 Hs G H : Hp} {σ : L2.St} {ρ : En} (E : DEnv K G0 H0 G H σ ρ) : ∀ {vs : List V} {ws : List W}, RRs K H0 Hs G H vs ws → okAs ws → ARs K G H vs (ws.map argD)
  | _, _, .nil, _ => .nil
  | _, _, .cons a b, ok => .cons (RR.argD a E (okAs_cons ok).1) (RRs.argsD E b (okAs_cons ok).2)
@[irreducible] def callL (spd : Spd) (ws : List W) (Q : W → Prop) (ZD : XEd) : Prop := onOk (okB ws) (spd (ws.map argD) (fun w => onRes w Q) ZD)
theorem callL_of {spd : Spd} {ws : List W} {Q : W → Prop} {ZD : XEd} (h : spd (ws.map argD) (fun w => onRes w Q) ZD) (hk : okB ws = true := by rfl) : callL spd ws Q ZD := by unfold callL; rw [hk]; exact h
theorem hd_callL {spd : Spd} {ws : List W} {Q : W → Prop} {ZD : XEd} (h : callL spd ws Q ZD) : callL spd ws Q ZD := h
def dCallL (spd : Spd) (ZD : XEd) (u : TAd) : TEd := fun ρ Q => u ρ fun ws => callL spd ws Q ZD
section
variable {X : Cx} {Z : Wish} {pos : Pos} {K : KW}
theorem snd_callL {spd : Spd} {ts : TA} {u : TAd} {ZE : XK} {ZD : XEd} (s : SndA K ⟨ZE, ZD⟩ ts u) : Snd K ⟨ZE, ZD⟩ (tCall (toSp K spd) [] ZE ts) (dCallL spd ZD u) := by
  intro G0 H0 G H σ ρ Q' Q E gd hh k
  refine s G0 H0 G H σ ρ _ _ E gd hh fun vs ws G1 H1 u1 r1 q1 => ?_
  have E1 := E.to u1
  unfold callL at q1
  obtain ⟨okb, q1⟩ := onOk_of q1
  rw [List.append_nil]
  refine ⟨G1, ws.map argD, _, ZD, u1.gh, RRs.argsD E1 r1 (okB_of okb), q1, fun v w G2 H2 u2 r2 q2 => ?_, fun cls d G' H' fs u' x q => gd cls d G' H' fs (E1.up.trans u') x q⟩
  cases w with
  | d x => exact k v (.d x) G2 H2 (u1.trans u2) r2 q2
  | l x =>
    obtain ⟨p, us, e, h1, h2⟩ := r2
    exact k v (.l x) G2 H2 (u1.trans u2) ⟨p, us, e, u1.h.back h1, h2⟩ q2
  | drw => exact k v .drw G2 H2 (u1.trans u2) r2 q2
  | b x => exact q2.elim
  | r x => exact q2.elim
  | x y =>
    cases y with
    | m kvs => exact k v (.x (.m kvs)) G2 H2 (u1.trans u2) (RR.at r2 u1.h) q2
    | _ => exact q2.elim
theorem d_callL {ZE : XK} {ZD : XEd} {CX : CXT} {k : Nat} {f : Addr} {fd : FuncData} {ps : List Str} {spd : Spd} {x : Str} {p : Pos} {e : Expr} {es : List Expr} {u : TAd} (F : FnOk X.prog X.w (kw X) X.mg X.base CX k f fd ps (toSp (kw X) spd)) (hr : Room k X.A) (hm : X.mg x = some (.ref f)) (hk : PySem.W.keepIn (kw X) (.ref f) = true) (hb : Binds (kw X) fd ps [])
    (hx : Passes CX X ZE) (ha : PDA X ⟨ZE, ZD⟩ (e :: es) u) (hg : Gl X x := by rfl) (hdb : (x == ("__debug__" : Str)) = false := by decide) (he : starEach (e :: es) X.env = (false, eval e X.env) :: starEach es X.env := by rfl) (hpl : (backTo pos (starEach es X.env)).any (·.1) = false := by rfl) :
    PD X ⟨ZE, ZD⟩ (.Call (.Name x p) (e :: es) [] pos) (dCallL spd ZD u) := by
  obtain ⟨ts, pa, sa⟩ := ha
  exact ⟨_, pe_call F hr hg hm hk hb .nil hx pa hdb he hpl, snd_callL sa⟩
end
end DL

/-! DL35: sorted by keys that are lists of the law's value keys. -/
namespace KR
open PySem PySem.SeqAt PySem.W DL PyProof.Rows
theorem row_one {prog : Program} {w : World} {A : Around} {E : Value → Shared → Prop} {s : Shared} {v v' : Value} {ys ys' : List PyData} {as bs : List Addr} {Q : Bool → Shared → Prop} (hy : ∀ y ∈ ys, isIS y = true) (hy' : ∀ y ∈ ys', isIS y = true) (c : ∀ y ∈ ys, (keyV y).canLay0 = true) (c' : ∀ y ∈ ys', (keyV y).canLay0 = true)
    (ra : Reads s.heap v (.list (ys.map keyV)) as) (rb : Reads s.heap v' (.list (ys'.map keyV)) bs) (hu : A.units + 10 < cLine) (hq : Q (dataLt (.list (ys.map valK)) (.list (ys'.map valK))) s) : wpAny (model prog w) A (oneLt' true v v') Q E s := by
  cases ra with
  | @list l o vs n _ as1 h1 h2 h3 h4 =>
    cases rb with
    | @list l' o' vs' n' _ bs1 k1 k2 k3 k4 =>
      obtain ⟨L1, R1⟩ := reads_at h4
      obtain ⟨L2, R2⟩ := reads_at k4
      rw [List.length_map, Array.length_toList] at L1 L2
      have ui : A.in1.units + 2 < cLine := by show A.units + 1 + 2 < cLine; omega
      have e1 : vs.size = (ys.map valK).length := by rw [List.length_map]; exact L1
      have e2 : vs'.size = (ys'.map valK).length := by rw [List.length_map]; exact L2
      rw [dataLt_list, ← firstLt_toks _ _ (alike_rows hy hy'), ← e1, ← e2] at hq
      rw [oneLt'_eq]
      simp only [if_true]
      refine wpAny_bind (wpAny_cRoomFor (by omega) ?_)
      refine wpAny_bind (wpAny_callSpecialIfBound?_slot (T := "list") ⟨_, h1, h2⟩ F.slot_list_lt (call_list_lt (e := pairEq (ys.map valK) (ys'.map valK)) (r := fun j => dataLt ((ys.map valK).getD j .none) ((ys'.map valK).getD j .none)) ⟨_, h1, h2, _, h3⟩ ⟨_, k1, k2, _, k3⟩ (fun j j1 j2 => ?_) (fun j j1 j2 hj => ?_) ?_))
      · have m1 : j < ys.length := by omega
        have m2 : j < ys'.length := by omega
        obtain ⟨_, p1⟩ := R1 j (by rw [Array.length_toList]; exact j1) (by rw [List.length_map]; exact m1)
        obtain ⟨_, p2⟩ := R2 j (by rw [Array.length_toList]; exact j2) (by rw [List.length_map]; exact m2)
        rw [List.getElem_map] at p1 p2
        have q := eqAt_reads _ _ A.in1 s _ _ _ _ p1 p2 (c _ (List.getElem_mem m1)) (c' _ (List.getElem_mem m2)) (by rw [depth_keyV (hy _ (List.getElem_mem m1))]; omega)
        rw [eqv_keys (hy _ (List.getElem_mem m1)) (hy' _ (List.getElem_mem m2))] at q
        have e : pairEq (ys.map valK) (ys'.map valK) j = PyData.eqv (valK ys[j]) (valK ys'[j]) := by
          unfold pairEq
          rw [List.getD_eq_getElem?_getD, List.getD_eq_getElem?_getD, List.getElem?_map, List.getElem?_map, List.getElem?_eq_getElem m1, List.getElem?_eq_getElem m2]; rfl
        rw [e]
        simpa using q
      · have m1 : j < ys.length := by omega
        have m2 : j < ys'.length := by omega
        obtain ⟨_, p1⟩ := R1 j (by rw [Array.length_toList]; exact j1) (by rw [List.length_map]; exact m1)
        obtain ⟨_, p2⟩ := R2 j (by rw [Array.length_toList]; exact j2) (by rw [List.length_map]; exact m2)
        rw [List.getElem_map] at p1 p2
        have q := key_cmp (A := A.in1) (hy _ (List.getElem_mem m1)) (hy' _ (List.getElem_mem m2)) p1 p2 ui
        rw [List.getD_eq_getElem?_getD, List.getD_eq_getElem?_getD, List.getElem?_map, List.getElem?_map, List.getElem?_eq_getElem m1, List.getElem?_eq_getElem m2]
        simpa using q
      · exact wpAny_truthy_bool hq
end KR
namespace DL
open PySem PySem.Spec PyProof.Rows L2
theorem keyRows {r q : List PyData} (e : r.map keyV = q.map keyV) : r.map valK = q.map valK := by
  have e5 : ∀ r : List PyData, (r.map keyV).map reK = r.map valK := fun r => by
    rw [List.map_map]
    refine List.map_congr_left fun y _ => ?_
    cases y <;> rfl
  rw [← e5 r, ← e5 q, e]
open Classical in
theorem sortedBy_lists {xs : List PyData} {f : PyData → List PyData} (h : ∀ x ∈ xs, ∀ y ∈ f x, isIS y = true) : SortedBy xs (fun x => .list ((f x).map keyV)) (fun x => .list ((f x).map valK)) := by
  intro prog w A s ks hu hr hc
  let ko : Value → Option (List (Int ⊕ List Nat)) := fun v => if q : ∃ x, x ∈ xs ∧ ∃ as, Reads s.heap v (.list ((f x).map keyV)) as then some (PySem.W.keyToks (.list ((f q.choose).map valK))) else none
  have some_of : ∀ {x : PyData} {v : Value} {as : List Addr}, x ∈ xs → Reads s.heap v (.list ((f x).map keyV)) as → ko v = some (PySem.W.keyToks (.list ((f x).map valK))) := fun {x v as} hx r => by
    have q : ∃ x, x ∈ xs ∧ ∃ as, Reads s.heap v (.list ((f x).map keyV)) as := ⟨x, hx, as, r⟩
    show (if q : ∃ x, x ∈ xs ∧ ∃ as, Reads s.heap v (.list ((f x).map keyV)) as then some (PySem.W.keyToks (.list ((f q.choose).map valK))) else none) = _
    rw [dif_pos q]
    obtain ⟨m, as', r'⟩ := q.choose_spec
    have e := KR.uniq _ _ _ _ _ (hc _ m) r' r
    injection e with e
    rw [keyRows e]
  have of_some : ∀ {v : Value} {k : List (Int ⊕ List Nat)}, ko v = some k → ∃ x as, x ∈ xs ∧ Reads s.heap v (.list ((f x).map keyV)) as ∧ k = PySem.W.keyToks (.list ((f x).map valK)) := fun {v k} e => by
    by_cases q : ∃ x, x ∈ xs ∧ ∃ as, Reads s.heap v (.list ((f x).map keyV)) as
    · obtain ⟨x, m, as, r⟩ := q
      rw [some_of m r] at e
      exact ⟨x, as, m, r, (Option.some.inj e).symm⟩
    · have e' : ko v = none := dif_neg q
      rw [e'] at e; cases e
  have each : PySem.W.EachIs (fun v b => ko v = some (PySem.W.keyToks (.list ((f b).map valK)))) ks xs := by
    have go : ∀ (gs : List PyData) (us : List Value), (∀ g ∈ gs, g ∈ xs) → PySem.W.EachIs (fun u d => ∃ as, Reads s.heap u d as) us (gs.map fun x => .list ((f x).map keyV)) → PySem.W.EachIs (fun v b => ko v = some (PySem.W.keyToks (.list ((f b).map valK)))) us gs := by
      intro gs
      induction gs with
      | nil => intro us _ e; cases e; exact .nil
      | cons g gs ih =>
        intro us m e
        cases e with
        | cons e1 e2 =>
          obtain ⟨as, r⟩ := e1
          exact .cons (some_of (m g (by simp)) r) (ih _ (fun x hx => m x (List.mem_cons_of_mem _ hx)) e2)
    exact go xs ks (fun _ m => m) hr
  refine ⟨ko, ⟨fun v hv => ?_, oneType', ?_, fun h2 E Q hq => ?_⟩, each⟩
  · obtain ⟨b, _, hb⟩ := each.left v hv
    exact ⟨_, hb⟩
  · intro E x y a b Q ha hb hq
    obtain ⟨d, as, hd, ra, rfl⟩ := of_some ha
    obtain ⟨d', bs, hd', rb, rfl⟩ := of_some hb
    rw [keyLt'_oneType]
    exact KR.row_one (h d hd) (h d' hd') (keyV_lay (hc d hd)) (keyV_lay (hc d' hd')) ra rb (by omega) hq
  · refine PySem.W.kas_kind (T := .type "list") h2 (fun v hv => ?_) (by decide) (beq_self_eq_true _) hq
    obtain ⟨d, hd, as, r⟩ := hr.left v hv
    obtain ⟨x, _, rfl⟩ := List.mem_map.mp hd
    exact PySem.W.looks_reads r
theorem each_map {β : Type} {P : Value → β → Prop} {e : PyData → β} : ∀ {ks : List Value} {xs : List PyData}, PySem.W.EachIs P ks (xs.map e) → PySem.W.EachIs (fun v b => P v (e b)) ks xs
  | _, [], .nil => .nil
  | _, _ :: _, .cons a b => .cons a (each_map b)
theorem each_unmap {β : Type} {P : Value → β → Prop} {e : PyData → β} : ∀ {ks : List Value} {xs : List PyData}, PySem.W.EachIs (fun v b => P v (e b)) ks xs → PySem.W.EachIs P ks (xs.map e)
  | _, [], .nil => .nil
  | _, _ :: _, .cons a b => .cons a (each_unmap b)
theorem SortedBy.tr {xs ys : List PyData} {k e k' e' : PyData → PyData} (h : SortedBy ys k' e') (h1 : xs.map k = ys.map k') (h2 : xs.map e = ys.map e') : SortedBy xs k e := by
  intro prog w A s ks hu hr hc
  rw [h1] at hr
  have hc' : ∀ y ∈ ys, (k' y).canLay0 = true := fun y hy => by
    have m : k' y ∈ xs.map k := by rw [h1]; exact List.mem_map.mpr ⟨y, hy, rfl⟩
    obtain ⟨x, hx, ex⟩ := List.mem_map.mp m
    rw [← ex]; exact hc x hx
  obtain ⟨ko, a, b⟩ := h prog w A s ks hu hr hc'
  refine ⟨ko, a, each_map (P := fun v d => ko v = some (PySem.W.keyToks d)) ?_⟩
  rw [h2]
  exact each_unmap (P := fun v d => ko v = some (PySem.W.keyToks d)) b
/-- sorted by what g says -/
def srtBy {α β : Type} [SO β] (g : α → β) (xs : List α) : List α := xs.mergeSort fun a b => !SO.lt (g b) (g a)
theorem srtBy_perm {α β : Type} [SO β] (g : α → β) (xs : List α) : (srtBy g xs).Perm xs := List.mergeSort_perm ..
theorem srtBy_srt {α β : Type} [SO β] (g : α → β) (xs : List α) : Srt ((srtBy g xs).map g) := by
  have tr : ∀ a b c : α, (!SO.lt (g b) (g a)) = true → (!SO.lt (g c) (g b)) = true → (!SO.lt (g c) (g a)) = true := fun a b c h1 h2 => by
    rw [Bool.not_eq_true'] at h1 h2 ⊢
    rcases SO.tri (g a) (g b) with h | h | h
    · rcases SO.tri (g b) (g c) with h' | h' | h'
      · exact SO.asym (SO.tr _ _ _ h h')
      · rw [← h']; exact SO.asym h
      · rw [h2] at h'; cases h'
    · rw [h]; exact h2
    · rw [h1] at h; cases h
  have to : ∀ a b : α, ((!SO.lt (g b) (g a)) || (!SO.lt (g a) (g b))) = true := fun a b => by
    cases e : SO.lt (g b) (g a) with
    | false => rfl
    | true => rw [SO.asym e]; rfl
  refine List.pairwise_map.mpr (List.Pairwise.imp (fun h => ?_) (List.pairwise_mergeSort tr to xs))
  simpa using h
section
variable {α β : Type} [DecidableEq α] [Enc α] [SO β] {Q : W → Prop} {spd : Spd} {w : W} {xs : List α}
theorem sortKR_by (g : α → β) (k e : PyData → PyData) (hw : asL w = some (xs.map Enc.d)) (hs : ∀ x ∈ xs, ∀ K : W → Prop, K (.d (k (Enc.d x))) → spd [argW (.d (Enc.d x))] K fun _ _ => False) (hnd : ∀ x ∈ xs, noDct (k (Enc.d x)) = true) (hb : SortedBy (xs.map Enc.d) k e)
    (hl : ∀ a ∈ xs, ∀ b ∈ xs, PySem.W.dataLt (e (Enc.d a)) (e (Enc.d b)) = SO.lt (g a) (g b)) (q : Q (.l ((srtBy g xs).map Enc.d))) : sortKR spd [w] Q := by
  unfold sortKR
  refine ⟨xs.map Enc.d, k, e, hw, fun x hx => ?_, fun x hx => ?_, hb, ?_⟩
  · obtain ⟨a, ha, rfl⟩ := List.mem_map.mp hx
    exact hs a ha _ rfl
  · obtain ⟨a, ha, rfl⟩ := List.mem_map.mp hx
    exact hnd a ha
  · have e1 : (xs.map Enc.d).mergeSort (PySem.W.dataLe false e) = (srtBy g xs).map Enc.d := by
      unfold srtBy
      rw [List.map_mergeSort]
      intro a ha b hb
      rw [dataLe_eq, hl b hb a ha]
    rw [e1]
    exact q
open Classical in
noncomputable def keyB (f : α → PyData) (d : PyData) : PyData := if h : ∃ a : α, Enc.d a = d then f h.choose else d
theorem keyB_at (f : α → PyData) (a : α) : keyB f (Enc.d a) = f a := by
  have h : ∃ b : α, Enc.d b = (Enc.d a : PyData) := ⟨a, rfl⟩
  unfold keyB
  rw [dif_pos h, Enc.inj h.choose_spec]
/-- .. a key of the program: a tuple of value keys -/
theorem sortKR_byE [DecidableEq β] [Enc β] [KeyE β] (g : α → β) (hs : ∀ x ∈ xs, ∀ K : W → Prop, K (.d (KeyE.ek (g x))) → spd [argW (.d (Enc.d x))] K fun _ _ => False) (ok : KeysOk ((xs.map g).map KeyE.ek)) (nn : ∀ x ∈ xs, (KeyE.ek (g x) : PyData) ≠ .none) (q : Q (.l ((srtBy g xs).map Enc.d)))
    (hw : asL w = some (xs.map Enc.d) := by rfl) (hl : KeyE.lv β ≤ 60 := by decide) : sortKR spd [w] Q := by
  have sb := sortedBy_ek (xs.map g) (keyBy KeyE.ek) (fun x _ => keyBy_at _ x) ok (fun x hx => by obtain ⟨a, ha, rfl⟩ := List.mem_map.mp hx; exact nn a ha) hl
  have e1 : (xs.map Enc.d).map (keyB fun x : α => KeyE.ek (g x)) = ((xs.map g).map Enc.d).map (keyBy (KeyE.ek (α := β))) := by
    rw [List.map_map, List.map_map, List.map_map]
    refine List.map_congr_left fun x _ => ?_
    show keyB (fun x : α => KeyE.ek (g x)) (Enc.d x) = keyBy KeyE.ek (Enc.d (g x))
    rw [keyB_at, keyBy_at]
  exact sortKR_by g (keyB fun x => KeyE.ek (g x)) (keyB fun x => KeyE.ek (g x)) hw (fun x hx K hK => hs x hx K (by rw [keyB_at] at hK; exact hK)) (fun x _ => by rw [keyB_at]; exact KeyE.nd (g x)) (sb.tr e1 e1) (fun a _ b _ => by rw [keyB_at, keyB_at, KeyE.lt]) q
end
/-! ### a promise whose answer is stable from then on -/
def frzSp (spd : Spd) : Spd := fun ws Q E => spd ws (fun w => onFw w fun d => Q (.d d)) E
theorem fn_frz {P : Program} {w : World} {K : PySem.W.Frag} {mg : Str → Option Value} {base : Heap} {CX : CXT} {k : Nat} {f : Addr} {fd : FuncData} {ps : List Str} {spd : Spd} (F : FnOk P w K mg base CX k f fd ps (toSp ⟨K, w⟩ spd)) : FnOk P w K mg base CX k f fd ps (toSp ⟨K, w⟩ (frzSp spd)) :=
  F.imp fun vs H Q E ⟨G, ws, Q', E', gh, a, s, c, gd⟩ => ⟨G, ws, fun w => onFw w fun d => Q' (.d d), E', gh, a, s, fun v w G' H' u r q => by
    obtain ⟨x, e, q⟩ := onFw_of q
    exact c v (.d x) (frzAll H G' H') H' (frzAll_up u) (r.frz u.gh e) q, gd⟩
theorem frzSp_of {spd : Spd} {ws : List W} {Q : W → Prop} {E : XEd} (h : spd ws (fun w => onFw w fun d => Q (.d d)) E) : frzSp spd ws Q E := h
section
variable {α : Type} [DecidableEq α] [Enc α] {Q : W → Prop} {spd : Spd} {w : W} {xs : List α}
theorem ltL_rows (r q : VRow) : PySem.W.dataLt (.list ((r.map Enc.d).map valK)) (.list ((q.map Enc.d).map valK)) = SO.lt r q := by
  have e : ∀ r : VRow, (r.map Enc.d).map valK = r.map KeyE.ek := fun r => by
    rw [List.map_map]; rfl
  rw [e, e, PySem.W.dataLt_list]
  exact lexLt_ek r q
/-- .. a key of the law: a list of value keys -/
theorem sortKR_byL (g : α → VRow) (hs : ∀ x ∈ xs, ∀ K : W → Prop, K (.d (.list ((g x).map fun v => keyV (Enc.d v)))) → spd [argW (.d (Enc.d x))] K fun _ _ => False) (q : Q (.l ((srtBy g xs).map Enc.d)))
    (hw : asL w = some (xs.map Enc.d) := by rfl) : sortKR spd [w] Q := by
  have hv : ∀ x ∈ (xs.map fun x => PyData.tuple ((g x).map Enc.d)), ∀ y ∈ (match x with | .tuple ys => ys | _ => []), isIS y = true := fun x hx y hy => by
    obtain ⟨a, _, rfl⟩ := List.mem_map.mp hx
    obtain ⟨v, _, rfl⟩ := List.mem_map.mp hy
    exact isIS_val v
  have sb := sortedBy_lists hv
  refine sortKR_by g (keyB fun x => .list (((g x).map Enc.d).map keyV)) (keyB fun x => .list (((g x).map Enc.d).map valK)) hw (fun x hx K hK => hs x hx K (by rw [keyB_at, List.map_map] at hK; exact hK)) (fun x _ => ?_) (sb.tr ?_ ?_) (fun a _ b _ => by rw [keyB_at, keyB_at]; exact ltL_rows _ _) q
  · rw [keyB_at]
    have e : ∀ r : VRow, noDct (.list ((r.map Enc.d).map keyV)) = true := fun r => by
      rw [List.map_map]
      exact noDict_list fun y hy => by
        obtain ⟨v, _, rfl⟩ := List.mem_map.mp hy
        cases v <;> rfl
    exact e (g x)
  · rw [List.map_map, List.map_map]
    refine List.map_congr_left fun x _ => ?_
    show keyB _ (Enc.d x) = _
    rw [keyB_at]; rfl
  · rw [List.map_map, List.map_map]
    refine List.map_congr_left fun x _ => ?_
    show keyB _ (Enc.d x) = _
    rw [keyB_at]; rfl
end
end DL

/-! DL36: valuations in order of their names. -/
namespace DL
open PySem PySem.Spec PyProof.Rows L2
theorem bstep_nd {s t : Vals1} {p : Term × Val} (h : (s.map (·.1)).Nodup) (e : bstep s p = some t) : (t.map (·.1)).Nodup := by
  unfold bstep at e
  split at e
  · split at e <;> cases e; exact h
  · split at e
    · split at e <;> cases e; exact h
    · rename_i x1 _ _ hx
      cases e
      rw [List.map_append]
      exact List.nodup_append.mpr ⟨h, by simp, fun a ha b hb => by
        have e2 : b = x1 := by simpa using hb
        rw [e2]; exact fun z => lookT_none.mp hx (z ▸ ha)⟩
theorem bindF_nd : ∀ {ps : List (Term × Val)} {s t : Vals1}, (s.map (·.1)).Nodup → bindF ps s = some t → (t.map (·.1)).Nodup
  | [], s, t, h, e => by cases e; exact h
  | p :: ps, s, t, h, e => by
    have e : (bstep s p).bind (bindF ps) = some t := e
    cases e1 : bstep s p with
    | none => rw [e1] at e; cases e
    | some u => rw [e1] at e; exact bindF_nd (ps := ps) (bstep_nd h e1) e
theorem fvF_nd (store : List Fact) : ∀ body : List Atom, ∀ m ∈ fvF store body, (m.map (·.1)).Nodup := by
  refine snocInd (fun m hm => ?_) fun body a ih m hm => ?_
  · have : m = [] := by simpa [fvF] using hm
    rw [this]; exact List.nodup_nil
  · rw [fvF_snoc] at hm
    obtain ⟨s, hs, hm⟩ := List.mem_flatMap.mp hm
    obtain ⟨r, hr, e⟩ := List.mem_filterMap.mp hm
    exact bindF_nd (ih s hs) e
/-- a valuation, sorted by name -/
def tupV (m : Vals1) : Vals1 := (setF (m.map (·.1))).filterMap fun n => (lookT m n).map fun v => (n, v)
theorem look_mem {m : Vals1} {p : Str × Val} (nd : (m.map (·.1)).Nodup) (h : p ∈ m) : lookT m p.1 = some p.2 := by
  induction m with
  | nil => cases h
  | cons q m ih =>
    rw [List.map_cons, List.nodup_cons] at nd
    show (if q.1 = p.1 then some q.2 else lookT m p.1) = _
    rcases List.mem_cons.mp h with e | e
    · rw [e, if_pos rfl]
    · rw [if_neg fun z => nd.1 (by rw [z]; exact List.mem_map.mpr ⟨p, e, rfl⟩)]
      exact ih nd.2 e
theorem tupV_of {m ys : Vals1} (nd : (m.map (·.1)).Nodup) (p : ys.Perm m) (s : Srt (ys.map (·.1))) : ys = tupV m := by
  have nd2 : (ys.map (·.1)).Nodup := (p.map _).nodup_iff.mpr nd
  have e1 : ys.map (·.1) = setF (m.map (·.1)) := setF_of (s.asc nd2) fun k => (p.map _).mem_iff
  unfold tupV
  rw [← e1, List.filterMap_map]
  have e2 : ∀ zs : Vals1, (∀ q ∈ zs, q ∈ m) → zs = zs.filterMap ((fun n => (lookT m n).map fun v => (n, v)) ∘ (·.1)) := fun zs h => by
    induction zs with
    | nil => rfl
    | cons q zs ih =>
      have l := look_mem nd (h q List.mem_cons_self)
      have l2 : ((fun n => (lookT m n).map fun v => (n, v)) ∘ (·.1)) q = some q := by
        show (lookT m q.1).map _ = _
        rw [l]; rfl
      rw [List.filterMap_cons_some l2, ← ih fun x hx => h x (List.mem_cons_of_mem _ hx)]
  exact e2 ys fun q hq => p.mem_iff.mp hq
theorem tupV_d (m : Vals1) : ((setF (m.map (·.1))).filterMap fun n => (lookT m n).map fun v => Enc.d ((n, v) : Str × Val)) = (tupV m).map Enc.d := by
  unfold tupV
  rw [List.map_filterMap]
  congr 1
  funext n
  cases lookT m n <;> rfl
end DL

/-! DL37: keys of valuations. -/
namespace DL
open PySem PySem.Spec PyProof.Rows L2
theorem bstep_dom {s t : Vals1} {p : Term × Val} (e : bstep s p = some t) (k : Str) : k ∈ t.map (·.1) ↔ k ∈ s.map (·.1) ∨ k ∈ varsT [p.1] := by
  obtain ⟨u, v⟩ := p
  cases u with
  | val x =>
    have e : (if x = v then some s else none) = some t := e
    by_cases h : x = v
    · rw [if_pos h] at e; cases e; simp [varsT, Term.nm]
    · rw [if_neg h] at e; cases e
  | var x =>
    rw [bstep_put] at e
    cases l : lookT s x with
    | none =>
      rw [putF_n l] at e
      cases e
      simp [varsT, Term.nm]
    | some y =>
      rw [putF_s l] at e
      have e : (if y = v then some s else none) = some t := e
      have hx : x ∈ s.map (·.1) := Decidable.byContradiction fun z => by rw [lookT_none.mpr z] at l; cases l
      by_cases h : y = v
      · rw [if_pos h] at e; cases e
        constructor
        · exact .inl
        · rintro (z | z)
          · exact z
          · have : k = x := by simpa [varsT, Term.nm] using z
            rw [this]; exact hx
      · rw [if_neg h] at e; cases e
theorem bindF_dom : ∀ {us : List Term} {r : VRow} {s t : Vals1}, r.length = us.length → bindF (us.zip r) s = some t → ∀ k, k ∈ t.map (·.1) ↔ k ∈ s.map (·.1) ∨ k ∈ varsT us
  | [], r, s, t, _, e, k => by
    have e : some s = some t := e
    cases e; simp [varsT]
  | u :: us, [], s, t, l, e, k => by simp at l
  | u :: us, v :: r, s, t, l, e, k => by
    have e : (bstep s (u, v)).bind (bindF (us.zip r)) = some t := e
    cases e1 : bstep s (u, v) with
    | none => rw [e1] at e; cases e
    | some w =>
      rw [e1] at e
      rw [bindF_dom (us := us) (r := r) (by simpa using l) e k, bstep_dom e1 k, show varsT (u :: us) = varsT [u] ++ varsT us from by unfold varsT; rw [← List.filterMap_append]; rfl, List.mem_append, or_assoc]
theorem fvF_dom {store : List Fact} : ∀ body : List Atom, (∀ a ∈ body, ∀ r ∈ rowsFor store a.1, r.length = a.2.length) → ∀ m ∈ fvF store body, ∀ k, k ∈ m.map (·.1) ↔ k ∈ varsF body := by
  refine snocInd (fun _ m hm k => ?_) fun body a ih hr m hm k => ?_
  · have : m = [] := by simpa [fvF] using hm
    rw [this]; rfl
  · rw [fvF_snoc] at hm
    obtain ⟨s, hs, hm⟩ := List.mem_flatMap.mp hm
    obtain ⟨r, hr2, e⟩ := List.mem_filterMap.mp hm
    rw [bindF_dom (hr a (by simp) r hr2) e k, ih (fun b hb => hr b (by simp [hb])) s hs k, varsF_snoc, List.mem_append]
theorem le_one {α β : Type} {f : α → Option β} : ∀ {xs : List α}, xs.Nodup → (∀ a ∈ xs, ∀ b ∈ xs, f a ≠ none → f b ≠ none → a = b) → (xs.filterMap f).length ≤ 1
  | [], _, _ => by simp
  | x :: xs, nd, h => by
    obtain ⟨n1, n2⟩ := List.nodup_cons.mp nd
    cases e : f x with
    | none =>
      rw [List.filterMap_cons_none e]
      exact le_one n2 fun a ha b hb => h a (List.mem_cons_of_mem _ ha) b (List.mem_cons_of_mem _ hb)
    | some y =>
      have z : xs.filterMap f = [] := by
        rw [List.filterMap_eq_nil_iff]
        intro a ha
        refine Decidable.byContradiction fun q => ?_
        exact n1 (h x List.mem_cons_self a (List.mem_cons_of_mem _ ha) (by rw [e]; simp) q ▸ ha)
      rw [List.filterMap_cons_some e, z]; exact Nat.le_refl 1
theorem bind_vals : ∀ {us : List Term} {r : VRow} {s t : Vals1}, varsT us = [] → r.length = us.length → bindF (us.zip r) s = some t → us = r.map Term.val
  | [], [], _, _, _, _, _ => rfl
  | [], v :: r, _, _, _, l, _ => by simp at l
  | u :: us, [], _, _, _, l, _ => by simp at l
  | .var x :: us, v :: r, _, _, n, _, _ => by simp [varsT, Term.nm] at n
  | .val x :: us, v :: r, s, t, n, l, e => by
    have e : (if x = v then some s else none).bind (bindF (us.zip r)) = some t := e
    by_cases h : x = v
    · rw [if_pos h] at e
      rw [bind_vals (us := us) (r := r) (by simpa [varsT, Term.nm] using n) (by simpa using l) e, h]; rfl
    · rw [if_neg h] at e; cases e
theorem val_inj {r q : VRow} (e : r.map Term.val = q.map Term.val) : r = q := by
  induction r generalizing q with
  | nil => cases q with | nil => rfl | cons _ _ => cases e
  | cons v r ih => cases q with
    | nil => cases e
    | cons w q =>
      rw [List.map_cons, List.map_cons] at e
      injection e with e1 e2
      injection e1 with e1
      rw [e1, ih e2]
theorem rows_nd {store : List Fact} (h : store.Nodup) (n : Str) : (rowsFor store n).Nodup := by
  unfold rowsFor
  refine List.Pairwise.map _ (R := fun a b : Fact => a ≠ b ∧ a.1 = n ∧ b.1 = n) (fun a b q e => q.1 (Prod.ext (q.2.1.trans q.2.2.symm) e)) ?_
  have nd : (store.filter fun f => decide (f.1 = n)).Nodup := List.Pairwise.filter _ h
  refine List.Pairwise.imp_of_mem (fun {a b} ha hb q => ⟨q, ?_, ?_⟩) nd
  · exact of_decide_eq_true (List.mem_filter.mp ha).2
  · exact of_decide_eq_true (List.mem_filter.mp hb).2
theorem fvF_one {store : List Fact} (nd : store.Nodup) : ∀ body : List Atom, (∀ a ∈ body, ∀ r ∈ rowsFor store a.1, r.length = a.2.length) → varsF body = [] → (fvF store body).length ≤ 1 := by
  refine snocInd (fun _ _ => Nat.le_refl 1) fun body a ih hr hv => ?_
  rw [varsF_snoc] at hv
  obtain ⟨v1, v2⟩ := List.append_eq_nil_iff.mp hv
  have l := ih (fun b hb => hr b (by simp [hb])) v1
  rw [fvF_snoc]
  have one : ∀ m, (stepA store a m).length ≤ 1 := fun m => by
    unfold stepA
    refine le_one (rows_nd nd a.1) fun r h1 q h2 e1 e2 => ?_
    obtain ⟨t1, e1⟩ := Option.ne_none_iff_exists'.mp e1
    obtain ⟨t2, e2⟩ := Option.ne_none_iff_exists'.mp e2
    exact val_inj ((bind_vals v2 (hr a (by simp) r h1) e1).symm.trans (bind_vals v2 (hr a (by simp) q h2) e2))
  have := flat_len (fvF store body) (f := stepA store a) (n := 1) fun m _ => one m
  omega
theorem tupV_mem {m : Vals1} {k : Str} (h : k ∈ m.map (·.1)) : tupV m ≠ [] := by
  intro z
  unfold tupV at z
  rw [List.filterMap_eq_nil_iff] at z
  have := z k (setF_mem.mpr h)
  cases e : lookT m k with
  | none => exact lookT_none.mp e h
  | some v => rw [e] at this; cases this
theorem keys_ok {store : List Fact} {body : List Atom} (sf : StoreFit store body) : KeysOk (((fvF store body).map tupV |>.map fun m => m.map (·.2)).map KeyE.ek) := by
  by_cases h : varsF body = []
  · refine .inr ?_
    rw [List.length_map, List.length_map, List.length_map]
    exact fvF_one sf.nd body sf.rows h
  · refine .inl (.inl fun d hd => ?_)
    obtain ⟨r, hr, rfl⟩ := List.mem_map.mp hd
    obtain ⟨t, ht, rfl⟩ := List.mem_map.mp hr
    obtain ⟨m, hm, rfl⟩ := List.mem_map.mp ht
    obtain ⟨k, hk⟩ := List.exists_mem_of_ne_nil _ h
    have ne := tupV_mem ((fvF_dom body sf.rows m hm k).mpr hk)
    obtain ⟨p, ps, e⟩ := List.exists_cons_of_ne_nil ne
    rw [e]
    exact ⟨_, _, rfl⟩
theorem tupV_len (m : Vals1) : (tupV m).length ≤ m.length := by
  unfold tupV
  have a := List.length_filterMap_le (fun n => (lookT m n).map fun v => (n, v)) (setF (m.map (·.1)))
  have b := setF_len (m.map (·.1))
  rw [List.length_map] at b
  omega
end DL

/-! DL38: worlds (a schema, names, values). -/
namespace DL
open PySem PySem.Spec PyProof.Rows L2
theorem sortedS_of_srt {xs : List Str} (h : Srt xs) : sortedS xs = true :=
  sortedS_of_pairwise xs (List.Pairwise.imp (fun {a b} q => by rw [ltCps_eq, lt_strs]; exact q) h)
theorem SchOk.take {ts : List Tb} (h : SchOk ts) (n : Nat) : SchOk (ts.take n) := by
  refine ⟨?_, ?_, ?_, fun t ht => h.wd t (List.mem_of_mem_take ht)⟩
  · have := h.few
    rw [List.length_take]; omega
  · rw [List.map_take]; exact h.nd.sublist (List.take_sublist ..)
  · rw [List.map_take]
    exact sortedS_of_srt (List.Pairwise.sublist (List.take_sublist ..) (sortedS_srt h.srt))
theorem SchOk.one {n : Str} {k r : Nat} (h : isW n = true) (l : k + r ≤ 8) : SchOk [⟨n, k, r⟩] :=
  ⟨by simp, by simp, rfl, fun t ht => by
    have e : t = ⟨n, k, r⟩ := by simpa using ht
    rw [e]; exact ⟨h, l⟩⟩
theorem cut_mid {α : Type} [DecidableEq α] [Enc α] (xs : List α) {a b : Nat} (h1 : a ≤ b) (h : b ≤ xs.length) : DL.cutD (xs.map Enc.d) (some (a : Int)) (some (b : Int)) = ((xs.drop a).take (b - a)).map Enc.d := by
  unfold DL.cutD
  rw [HT.sIx_nat, HT.sIx_nat, List.length_map, Nat.min_eq_left h, Nat.min_eq_left (Nat.le_trans h1 h), List.map_take, List.map_drop]
/-- a term of a world -/
def TermW (ns : List Str) (vs : List Val) (t : Term) : Prop := (∀ x, t = .var x → x ∈ ns) ∧ ∀ v, t = .val v → v ∈ vs
/-- an atom of a world -/
def AtomW (ts : List Tb) (ns : List Str) (vs : List Val) (a : Atom) : Prop := (∃ t ∈ ts, a.1 = t.n ∧ a.2.length = t.k + t.r) ∧ ∀ t ∈ a.2, TermW ns vs t
theorem AtomW.len {ts : List Tb} {ns : List Str} {vs : List Val} (so : SchOk ts) {a : Atom} (h : AtomW ts ns vs a) : a.2.length ≤ 8 := by
  obtain ⟨⟨t, ht, _, l⟩, _⟩ := h
  have := (so.wd t ht).2
  omega
theorem putF_w {ns : List Str} {vs : List Val} {m : Vals1} {t : Term} (h : TermW ns vs t) (hk : m.map (·.1) = ns) (hv : ∀ p ∈ m, p.2 ∈ vs) : ∃ v ∈ vs, putF m t = .val v := by
  cases t with
  | val v => exact ⟨v, h.2 v rfl, rfl⟩
  | var x =>
    cases e : lookT m x with
    | none => exact absurd (hk ▸ h.1 x rfl) (lookT_none.mp e)
    | some v =>
      refine ⟨v, ?_, putF_s e⟩
      have : ∀ {s : Vals1}, lookT s x = some v → ∃ p ∈ s, p.2 = v := fun {s} => by
        induction s with
        | nil => intro z; cases z
        | cons p s ih =>
          intro z
          by_cases q : p.1 = x
          · rw [lookT, if_pos q] at z
            exact ⟨p, List.mem_cons_self, Option.some.inj z⟩
          · rw [lookT, if_neg q] at z
            obtain ⟨r, hr, er⟩ := ih z
            exact ⟨r, List.mem_cons_of_mem _ hr, er⟩
      obtain ⟨p, hp, e2⟩ := this e
      rw [← e2]; exact hv p hp
/-- a fact of a world -/
def FactW (ts : List Tb) (vs : List Val) (f : Fact) : Prop := (∃ t, findT ts f.1 = some t ∧ f.2.length = t.k + t.r) ∧ ∀ v ∈ f.2, v ∈ vs
theorem FactW.fit {ts : List Tb} {vs : List Val} {f : Fact} (h : FactW ts vs f) (hv : ∀ v ∈ vs, v.ok = true) : FitT ts f := ⟨h.1, fun v hm => hv v (h.2 v hm)⟩
theorem FactW.small {ts : List Tb} {vs : List Val} {f : Fact} (so : SchOk ts) (h : FactW ts vs f) : f.2.length ≤ 8 := by
  obtain ⟨⟨t, ht, l⟩, _⟩ := h
  have := (so.wd t (findT_some ht).1).2
  omega
theorem termsOf_len {n : Nat} : ∀ {body : List Atom}, (∀ a ∈ body, a.2.length ≤ n) → (termsOf body).length ≤ n * body.length
  | [], _ => Nat.zero_le _
  | a :: body, h => by
    have h1 := h a List.mem_cons_self
    have h2 := termsOf_len (body := body) fun b hb => h b (List.mem_cons_of_mem _ hb)
    have e : termsOf (a :: body) = a.2 ++ termsOf body := rfl
    rw [e, List.length_append, List.length_cons, Nat.mul_succ]
    omega
theorem world_fit {ts : List Tb} {ns : List Str} {vs : List Val} {store : List Fact} {body : List Atom} (so : SchOk ts) (hf : ∀ f ∈ store, FactW ts vs f) (ha : ∀ a ∈ body, AtomW ts ns vs a) (nd : store.Nodup) (few : store.length ≤ 9) (bl : body.length ≤ 6) : StoreFit store body where
  rows := fun a hm r hr => by
    obtain ⟨f, hf2, rfl⟩ := List.mem_map.mp hr
    obtain ⟨hf2, e⟩ := List.mem_filter.mp hf2
    obtain ⟨⟨t, ht, l⟩, _⟩ := hf f hf2
    obtain ⟨⟨u, hu, e2, l2⟩, _⟩ := ha a hm
    rw [of_decide_eq_true e, e2, findT_mem so.nd hu] at ht
    cases ht
    omega
  wide := by
    have := termsOf_len (n := 8) fun a hm => (ha a hm).len so
    omega
  few := by omega
  nd := nd
  many := by
    have h1 : szF store ^ body.length ≤ 9 ^ body.length := Nat.pow_le_pow_left (by unfold szF; omega) _
    have h2 : 9 ^ body.length ≤ 9 ^ 6 := Nat.pow_le_pow_right (by decide) bl
    omega
end DL

/-! DL39: what valuations mean; rows that answer. -/
namespace DL
open PySem PySem.Spec PyProof.Rows L2
/-- a term's value -/
def ev (v : Str → Val) : Term → Val
  | .var x => v x
  | .val u => u
/-- v says what m says -/
def Says (m : Vals1) (v : Str → Val) : Prop := ∀ x u, lookT m x = some u → v x = u
theorem says_nil (v : Str → Val) : Says [] v := fun x u h => by cases h
theorem bstep_says {s : Vals1} {p : Term × Val} {v : Str → Val} : (∃ t, bstep s p = some t ∧ Says t v) ↔ Says s v ∧ ev v p.1 = p.2 := by
  obtain ⟨t, w⟩ := p
  cases t with
  | val u =>
    show (∃ t, (if u = w then some s else none) = some t ∧ Says t v) ↔ Says s v ∧ u = w
    by_cases e : u = w
    · rw [if_pos e]
      exact ⟨fun ⟨t, h1, h2⟩ => by cases h1; exact ⟨h2, e⟩, fun ⟨h, _⟩ => ⟨s, rfl, h⟩⟩
    · rw [if_neg e]
      exact ⟨fun ⟨t, h1, _⟩ => (by cases h1), fun ⟨_, h⟩ => absurd h e⟩
  | var x =>
    cases l : lookT s x with
    | some u =>
      have eb : bstep s (.var x, w) = if u = w then some s else none := by simp only [bstep, l]
      rw [eb]
      by_cases e : u = w
      · rw [if_pos e]
        exact ⟨fun ⟨t, h1, h2⟩ => by cases h1; exact ⟨h2, (h2 x u l).trans e⟩, fun ⟨h, _⟩ => ⟨s, rfl, h⟩⟩
      · rw [if_neg e]
        exact ⟨fun ⟨t, h1, _⟩ => (by cases h1), fun ⟨h, h2⟩ => absurd ((h x u l).symm.trans h2) e⟩
    | none =>
      have eb : bstep s (.var x, w) = some (s ++ [(x, w)]) := by simp only [bstep, l]
      rw [eb]
      refine ⟨fun ⟨t, h1, h2⟩ => ?_, fun ⟨h, h2⟩ => ⟨_, rfl, fun y u hy => ?_⟩⟩
      · cases h1
        refine ⟨fun y u hy => h2 y u (by rw [lookT_snoc, hy]; rfl), h2 x w (by rw [lookT_snoc, l, if_pos rfl]; rfl)⟩
      · rw [lookT_snoc] at hy
        cases ly : lookT s y with
        | some u2 => rw [ly] at hy; cases hy; exact h y _ ly
        | none =>
          rw [ly] at hy
          by_cases e : x = y
          · rw [if_pos e] at hy; cases hy; rw [← e]; exact h2
          · rw [if_neg e] at hy; cases hy
theorem bindF_says {v : Str → Val} : ∀ {ps : List (Term × Val)} {s : Vals1}, (∃ t, bindF ps s = some t ∧ Says t v) ↔ Says s v ∧ ∀ p ∈ ps, ev v p.1 = p.2
  | [], s => ⟨fun ⟨t, h1, h2⟩ => by cases h1; exact ⟨h2, fun p hp => by cases hp⟩, fun ⟨h, _⟩ => ⟨s, rfl, h⟩⟩
  | p :: ps, s => by
    constructor
    · rintro ⟨t, h1, h2⟩
      cases e : bstep s p with
      | none => rw [bindF, e] at h1; cases h1
      | some u =>
        rw [bindF, e] at h1
        obtain ⟨q1, q2⟩ := bindF_says.mp ⟨t, h1, h2⟩
        obtain ⟨q3, q4⟩ := bstep_says.mp ⟨u, e, q1⟩
        exact ⟨q3, fun q hq => (List.mem_cons.mp hq).elim (fun z => by rw [z]; exact q4) (q2 q)⟩
    · rintro ⟨h1, h2⟩
      obtain ⟨u, e, hu⟩ := bstep_says.mpr ⟨h1, h2 p List.mem_cons_self⟩
      obtain ⟨t, et, ht⟩ := bindF_says.mpr ⟨hu, fun q hq => h2 q (List.mem_cons_of_mem _ hq)⟩
      exact ⟨t, by rw [bindF, e]; exact et, ht⟩
theorem zip_ev {v : Str → Val} : ∀ {us : List Term} {r : VRow}, r.length = us.length → ((∀ p ∈ us.zip r, ev v p.1 = p.2) ↔ us.map (ev v) = r)
  | [], [], _ => ⟨fun _ => rfl, fun _ p hp => by cases hp⟩
  | u :: us, w :: r, h => by
    rw [List.zip_cons_cons, List.map_cons, List.cons.injEq, ← zip_ev (Nat.succ.inj h)]
    exact ⟨fun q => ⟨q (u, w) List.mem_cons_self, fun p hp => q p (List.mem_cons_of_mem _ hp)⟩, fun q p hp => (List.mem_cons.mp hp).elim (fun z => by rw [z]; exact q.1) (q.2 p)⟩
  | [], _ :: _, h => by cases h
  | _ :: _, [], h => by cases h
/-- the body holds in the store under v -/
def Sat (store : List Fact) (body : List Atom) (v : Str → Val) : Prop := ∀ a ∈ body, (a.1, a.2.map (ev v)) ∈ store
theorem Sat.mono {s1 s2 : List Fact} {body : List Atom} {v : Str → Val} (h : ∀ f ∈ s1, f ∈ s2) (q : Sat s1 body v) : Sat s2 body v := fun a ha => h _ (q a ha)
theorem mem_rowsFor {store : List Fact} {n : Str} {r : VRow} : r ∈ rowsFor store n ↔ (n, r) ∈ store := by
  unfold rowsFor
  rw [List.mem_map]
  constructor
  · rintro ⟨f, hf, rfl⟩
    obtain ⟨h1, h2⟩ := List.mem_filter.mp hf
    have e := of_decide_eq_true h2
    rw [← e]; exact h1
  · intro h
    exact ⟨(n, r), List.mem_filter.mpr ⟨h, decide_eq_true rfl⟩, rfl⟩
/-- the arities fit -/
def Arity (store : List Fact) (body : List Atom) : Prop := ∀ a ∈ body, ∀ r ∈ rowsFor store a.1, r.length = a.2.length
theorem Arity.mono {s1 s2 : List Fact} {body : List Atom} (h : ∀ f ∈ s1, f ∈ s2) (q : Arity s2 body) : Arity s1 body := fun a ha r hr => q a ha r (mem_rowsFor.mpr (h _ (mem_rowsFor.mp hr)))
theorem fvF_says {store : List Fact} {v : Str → Val} : ∀ body : List Atom, Arity store body → ((∃ m ∈ fvF store body, Says m v) ↔ Sat store body v) := by
  refine snocInd (fun _ => ⟨fun _ a ha => (by cases ha), fun _ => ⟨[], by simp [fvF], says_nil v⟩⟩) fun body a ih ar => ?_
  have ih := ih fun b hb => ar b (List.mem_append_left _ hb)
  have aa := ar a (List.mem_append_right _ (List.mem_singleton.mpr rfl))
  rw [fvF_snoc]
  constructor
  · rintro ⟨m, hm, hs⟩
    obtain ⟨m0, hm0, hst⟩ := List.mem_flatMap.mp hm
    obtain ⟨r, hr, hb⟩ := List.mem_filterMap.mp hst
    obtain ⟨q1, q2⟩ := bindF_says.mp ⟨m, hb, hs⟩
    have e := (zip_ev (aa r hr)).mp q2
    intro b hb2
    rcases List.mem_append.mp hb2 with z | z
    · exact ih.mp ⟨m0, hm0, q1⟩ b z
    · rw [List.mem_singleton.mp z, e]
      exact mem_rowsFor.mp hr
  · intro h
    obtain ⟨m0, hm0, hs⟩ := ih.mpr fun b hb => h b (List.mem_append_left _ hb)
    have hr := mem_rowsFor.mpr (h a (List.mem_append_right _ (List.mem_singleton.mpr rfl)))
    obtain ⟨m, hb, hm⟩ := bindF_says.mpr ⟨hs, (zip_ev (aa _ hr)).mpr rfl⟩
    exact ⟨m, List.mem_flatMap.mpr ⟨m0, hm0, List.mem_filterMap.mpr ⟨_, hr, hb⟩⟩, hm⟩
/-- a valuation made total -/
def total (m : Vals1) : Str → Val := fun x => (lookT m x).getD (.i 0)
theorem says_total (m : Vals1) : Says m (total m) := fun x u h => by rw [total, h]; rfl
/-- a head that can be told from the body -/
def HeadOk (head : List Term) (body : List Atom) : Prop := ∀ x, .var x ∈ head → x ∈ varsF body
def headF (head : List Term) (m : Vals1) : VRow := head.map (ev (total m))
theorem head_says {store : List Fact} {body : List Atom} {head : List Term} (ho : HeadOk head body) (ar : Arity store body) {m : Vals1} (hm : m ∈ fvF store body) {v : Str → Val} (hs : Says m v) : headF head m = head.map (ev v) := by
  refine List.map_congr_left fun t ht => ?_
  cases t with
  | val u => rfl
  | var x =>
    have hx := (fvF_dom body ar m hm x).mpr (ho x ht)
    cases e : lookT m x with
    | none => exact absurd hx (lookT_none.mp e)
    | some u =>
      show total m x = v x
      rw [hs x u e, total, e]; rfl
/-- the rows of a question, as they are found -/
def rowsF (store : List Fact) (js : List Join) : List VRow := js.flatMap fun j => (fvF store j.2).map (headF j.1)
/-- the row answers -/
def Ans (store : List Fact) (js : List Join) (row : VRow) : Prop := ∃ j ∈ js, ∃ v : Str → Val, Sat store j.2 v ∧ j.1.map (ev v) = row
/-- what the walk over a question needs -/
structure QFit (store : List Fact) (js : List Join) : Prop where
  fit : ∀ j ∈ js, StoreFit store j.2
  hd : ∀ j ∈ js, HeadOk j.1 j.2
  tot : (js.map fun j => szF store ^ j.2.length).sum ≤ 10000000
theorem mem_rowsF {store : List Fact} {js : List Join} (q : QFit store js) {row : VRow} : row ∈ rowsF store js ↔ Ans store js row := by
  unfold rowsF Ans
  rw [List.mem_flatMap]
  constructor
  · rintro ⟨j, hj, hr⟩
    obtain ⟨m, hm, rfl⟩ := List.mem_map.mp hr
    exact ⟨j, hj, total m, (fvF_says j.2 (q.fit j hj).rows).mp ⟨m, hm, says_total m⟩, rfl⟩
  · rintro ⟨j, hj, v, hs, rfl⟩
    obtain ⟨m, hm, sm⟩ := (fvF_says j.2 (q.fit j hj).rows).mpr hs
    exact ⟨j, hj, List.mem_map.mpr ⟨m, hm, head_says (q.hd j hj) (q.fit j hj).rows hm sm⟩⟩
theorem Ans.mono {s1 s2 : List Fact} {js : List Join} {row : VRow} (h : ∀ f ∈ s1, f ∈ s2) : Ans s1 js row → Ans s2 js row := fun ⟨j, hj, v, hs, e⟩ => ⟨j, hj, v, hs.mono h, e⟩
/-- s over v -/
def over (s : Vals1) (v : Str → Val) : Str → Val := fun x => (lookT s x).getD (v x)
theorem says_over (s : Vals1) (v : Str → Val) : Says s (over s v) := fun x u h => by rw [over, h]; rfl
theorem over_self {s : Vals1} {v : Str → Val} (h : Says s v) : over s v = v := by
  funext x
  unfold over
  cases e : lookT s x with
  | none => rfl
  | some u => exact (h x u e).symm
theorem ev_put (s : Vals1) (v : Str → Val) (t : Term) : ev v (putF s t) = ev (over s v) t := by
  cases t with
  | val u => rfl
  | var x =>
    cases e : lookT s x with
    | none => rw [putF_n e]; show v x = over s v x; rw [over, e]; rfl
    | some u => rw [putF_s e]; show u = over s v x; rw [over, e]; rfl
theorem sat_put {store : List Fact} {body : List Atom} (s : Vals1) (v : Str → Val) : Sat store (body.map fun a => (a.1, a.2.map (putF s))) v ↔ Sat store body (over s v) := by
  have e : ∀ us : List Term, (us.map (putF s)).map (ev v) = us.map (ev (over s v)) := fun us => by
    rw [List.map_map]; exact List.map_congr_left fun t _ => ev_put s v t
  constructor
  · intro h a ha
    have := h _ (List.mem_map.mpr ⟨a, ha, rfl⟩)
    rw [e] at this; exact this
  · intro h b hb
    obtain ⟨a, ha, rfl⟩ := List.mem_map.mp hb
    show (a.1, (a.2.map (putF s)).map (ev v)) ∈ store
    rw [e]; exact h a ha
/-- a row put in: the question closed -/
theorem ans_put {store : List Fact} {js : List Join} {row : VRow} (hl : ∀ j ∈ js, row.length = j.1.length) : Ans store (js.filterMap (putJ row)) [] ↔ Ans store js row := by
  constructor
  · rintro ⟨k, hk, v, hs, _⟩
    obtain ⟨j, hj, e⟩ := List.mem_filterMap.mp hk
    unfold putJ at e
    cases eb : bindF (j.1.zip row) [] with
    | none => rw [eb] at e; cases e
    | some s =>
      rw [eb] at e
      cases e
      have h2 := (sat_put s v).mp hs
      obtain ⟨_, h3⟩ := bindF_says.mp ⟨s, eb, says_over s v⟩
      exact ⟨j, hj, _, h2, (zip_ev (hl j hj)).mp h3⟩
  · rintro ⟨j, hj, v, hs, e⟩
    obtain ⟨s, eb, sv⟩ := bindF_says.mpr ⟨says_nil v, (zip_ev (hl j hj)).mpr e⟩
    refine ⟨_, List.mem_filterMap.mpr ⟨j, hj, by unfold putJ; rw [eb]; rfl⟩, v, ?_, rfl⟩
    refine (sat_put s v).mpr ?_
    rw [over_self sv]; exact hs
/-- the closed question -/
theorem ans_closed {store : List Fact} {js : List Join} : Ans store (js.map fun j => ([], j.2)) [] ↔ ∃ row, Ans store js row := by
  constructor
  · rintro ⟨k, hk, v, hs, _⟩
    obtain ⟨j, hj, rfl⟩ := List.mem_map.mp hk
    exact ⟨_, j, hj, v, hs, rfl⟩
  · rintro ⟨row, j, hj, v, hs, _⟩
    exact ⟨_, List.mem_map.mpr ⟨j, hj, rfl⟩, v, hs, rfl⟩
theorem all_set {α : Type} {P : α → Prop} {xs : List α} {i : Nat} {x : α} (h : ∀ y ∈ xs, P y) (hx : P x) : ∀ y ∈ xs.set i x, P y := fun y hy => (List.mem_or_eq_of_mem_set hy).elim (h y) fun z => z ▸ hx
theorem all_take_drop {α : Type} {P : α → Prop} {xs ys : List α} {k l : Nat} (h : ∀ y ∈ xs, P y) (h2 : ∀ y ∈ ys, P y) : ∀ y ∈ xs.take k ++ ys.drop l, P y := fun y hy => (List.mem_append.mp hy).elim (fun z => h y (List.mem_of_mem_take z)) fun z => h2 y (List.mem_of_mem_drop z)
/-- a join of a world -/
structure JoinW (ts : List Tb) (ns : List Str) (vs : List Val) (w n : Nat) (j : Join) : Prop where
  hl : j.1.length = w
  bl : j.2.length ≤ n
  at_ : ∀ a ∈ j.2, AtomW ts ns vs a
  hd : ∀ t ∈ j.1, TermW ns vs t ∧ (t.isVal = true ∨ t ∈ termsOf j.2)
theorem varsF_mem {body : List Atom} {x : Str} (h : .var x ∈ termsOf body) : x ∈ varsF body := by
  obtain ⟨a, ha, hx⟩ := List.mem_flatMap.mp h
  exact List.mem_flatMap.mpr ⟨a, ha, List.mem_filterMap.mpr ⟨_, hx, rfl⟩⟩
theorem JoinW.head {ts : List Tb} {ns : List Str} {vs : List Val} {w n : Nat} {j : Join} (h : JoinW ts ns vs w n j) : HeadOk j.1 j.2 := fun x hx =>
  (h.hd _ hx).2.elim (fun z => by cases z) varsF_mem
theorem sum_le {α : Type} {f : α → Nat} {n : Nat} : ∀ {xs : List α}, (∀ x ∈ xs, f x ≤ n) → (xs.map f).sum ≤ xs.length * n
  | [], _ => by simp
  | x :: xs, h => by
    have h1 := h x List.mem_cons_self
    have h2 := sum_le (xs := xs) fun y hy => h y (List.mem_cons_of_mem _ hy)
    rw [List.map_cons, List.sum_cons, List.length_cons, Nat.succ_mul]; omega
theorem sum_mono {α : Type} {f g : α → Nat} : ∀ {xs : List α}, (∀ x ∈ xs, f x ≤ g x) → (xs.map f).sum ≤ (xs.map g).sum
  | [], _ => Nat.le_refl _
  | x :: xs, h => by
    have h1 := h x List.mem_cons_self
    have h2 := sum_mono (xs := xs) fun y hy => h y (List.mem_cons_of_mem _ hy)
    rw [List.map_cons, List.sum_cons, List.map_cons, List.sum_cons]; omega
theorem world_q {ts : List Tb} {ns : List Str} {vs : List Val} {w n : Nat} {store : List Fact} {js : List Join} (so : SchOk ts) (hf : ∀ f ∈ store, FactW ts vs f) (hj : ∀ j ∈ js, JoinW ts ns vs w n j) (nd : store.Nodup) (few : store.length ≤ 9) (n6 : n ≤ 6) (j9 : js.length ≤ 9) : QFit store js :=
  ⟨fun j hm => world_fit so hf (hj j hm).at_ nd few (Nat.le_trans (hj j hm).bl n6), fun j hm => (hj j hm).head, by
    have := sum_le (f := fun j : Join => szF store ^ j.2.length) (n := 9 ^ 6) (xs := js) fun j hm => by
      refine Nat.le_trans (Nat.pow_le_pow_left (m := 9) (by unfold szF; omega) _) (Nat.pow_le_pow_right (by decide) (Nat.le_trans (hj j hm).bl n6))
    have h2 : js.length * 9 ^ 6 ≤ 9 * 9 ^ 6 := Nat.mul_le_mul_right _ j9
    omega⟩
theorem rowsF_sum (store : List Fact) : ∀ js : List Join, (rowsF store js).length ≤ (js.map fun j => szF store ^ j.2.length).sum
  | [] => Nat.le_refl _
  | j :: js => by
    have ih := rowsF_sum store js
    have e : rowsF store (j :: js) = (fvF store j.2).map (headF j.1) ++ rowsF store js := rfl
    have l := fvF_len store j.2
    rw [e, List.length_append, List.length_map, List.map_cons, List.sum_cons]; omega
theorem rowsF_len {store : List Fact} {js : List Join} (q : QFit store js) : (rowsF store js).length ≤ 10000000 := Nat.le_trans (rowsF_sum store js) q.tot
theorem rowsF_pre {store : List Fact} {js pre post : List Join} {j : Join} (q : QFit store js) (e : js = pre ++ j :: post) : (rowsF store pre).length + (fvF store j.2).length ≤ 10000000 := by
  have l := rowsF_len q
  rw [e] at l
  unfold rowsF at l ⊢
  rw [List.flatMap_append, List.flatMap_cons, List.length_append, List.length_append, List.length_map] at l
  omega
theorem headF_d (head : List Term) (m : Vals1) : PyData.tuple (head.map fun t => Enc.d (ev (total m) t)) = Enc.d (headF head m) := by
  show _ = PyData.tuple ((head.map (ev (total m))).map Enc.d)
  rw [List.map_map]; rfl
theorem setF_pos {α : Type} [SO α] [DecidableEq α] {xs : List α} : 0 < (setF xs).length ↔ xs ≠ [] := by
  rw [List.length_pos_iff]
  constructor
  · intro h e; exact h (by rw [e]; rfl)
  · intro h e
    obtain ⟨a, ha⟩ := List.exists_mem_of_ne_nil _ h
    have := setF_mem.mpr ha
    rw [e] at this; cases this
theorem termsOf_map (f : Term → Term) (body : List Atom) : termsOf (body.map fun a => (a.1, a.2.map f)) = (termsOf body).map f := by
  unfold termsOf
  rw [List.flatMap_map, List.map_flatMap]
theorem StoreFit.put {store : List Fact} {body : List Atom} (h : StoreFit store body) (s : Vals1) : StoreFit store (body.map fun a => (a.1, a.2.map (putF s))) where
  rows := fun b hb r hr => by
    obtain ⟨a, ha, rfl⟩ := List.mem_map.mp hb
    rw [List.length_map]
    exact h.rows a ha r hr
  wide := by rw [termsOf_map, List.length_map]; exact h.wide
  few := h.few
  nd := h.nd
  many := by rw [List.length_map]; exact h.many
theorem putJ_some {row : VRow} {j k : Join} (h : putJ row j = some k) : k.1 = [] ∧ ∃ s, k.2 = j.2.map fun a => (a.1, a.2.map (putF s)) := by
  unfold putJ at h
  cases e : bindF (j.1.zip row) [] with
  | none => rw [e] at h; cases h
  | some s => rw [e] at h; cases h; exact ⟨rfl, s, rfl⟩
theorem QFit.put {store : List Fact} {js : List Join} (h : QFit store js) (row : VRow) : QFit store (js.filterMap (putJ row)) where
  fit := fun k hk => by
    obtain ⟨j, hj, e⟩ := List.mem_filterMap.mp hk
    obtain ⟨_, s, e2⟩ := putJ_some e
    rw [e2]; exact (h.fit j hj).put s
  hd := fun k hk x hx => by
    obtain ⟨j, hj, e⟩ := List.mem_filterMap.mp hk
    rw [(putJ_some e).1] at hx; cases hx
  tot := by
    have key : ∀ ks : List Join, ((ks.filterMap (putJ row)).map fun j => szF store ^ j.2.length).sum ≤ (ks.map fun j => szF store ^ j.2.length).sum := fun ks => by
      induction ks with
      | nil => exact Nat.le_refl _
      | cons k ks ih =>
        cases e : putJ row k with
        | none => rw [List.filterMap_cons_none e, List.map_cons, List.sum_cons]; omega
        | some m =>
          obtain ⟨_, s, e2⟩ := putJ_some e
          rw [List.filterMap_cons_some e, List.map_cons, List.sum_cons, List.map_cons, List.sum_cons, e2, List.length_map]; omega
    exact Nat.le_trans (key js) h.tot
theorem put_heads {js : List Join} {row : VRow} : ∀ k ∈ js.filterMap (putJ row), k.1 = [] := fun k hk => by
  obtain ⟨j, hj, e⟩ := List.mem_filterMap.mp hk
  exact (putJ_some e).1
theorem QFit.closed {store : List Fact} {js : List Join} (h : QFit store js) : QFit store (js.map fun j => (([] : List Term), j.2)) where
  fit := fun k hk => by
    obtain ⟨j, hj, rfl⟩ := List.mem_map.mp hk
    exact h.fit j hj
  hd := fun k hk x hx => by
    obtain ⟨j, hj, rfl⟩ := List.mem_map.mp hk
    cases hx
  tot := by rw [List.map_map]; exact h.tot
theorem closed_heads {js : List Join} : ∀ k ∈ js.map fun j => (([] : List Term), j.2), k.1 = [] := fun k hk => by
  obtain ⟨j, hj, rfl⟩ := List.mem_map.mp hk
  rfl
theorem rows_closed {store : List Fact} {js : List Join} (h : QFit store js) (hh : ∀ j ∈ js, j.1 = []) : rowsF store js ≠ [] ↔ Ans store js [] := by
  constructor
  · intro n
    obtain ⟨r, hr⟩ := List.exists_mem_of_ne_nil _ n
    have := (mem_rowsF h).mp hr
    obtain ⟨j, hj, v, hs, e⟩ := this
    rw [hh j hj] at e
    exact ⟨j, hj, v, hs, by rw [hh j hj]; rfl⟩
  · intro a e
    have := (mem_rowsF h).mpr a
    rw [e] at this; cases this
theorem Ans.len {store : List Fact} {js : List Join} {row : VRow} {n : Nat} (h : ∀ j ∈ js, j.1.length = n) (a : Ans store js row) : row.length = n := by
  obtain ⟨j, hj, v, _, e⟩ := a
  rw [← e, List.length_map]; exact h j hj
end DL

/-! DL40: comprehensions that make dicts. -/
namespace DL
open PySem PySem.Spec PyProof.Rows L2
section
variable {X : Cx} {pins : List (Addr × Obj)} {σ : L2.St} {G H : Hp} {s : Shared}
/-- a key and a value laid into the dict at D -/
theorem dset_raw {D : Addr} {ks : List PyData} {vals : List V} {kd : PyData} {y z : V} {uk uz : Value} {E : Value → Shared → Prop} {Q : Unit → Shared → Prop} (hu : X.A.units + 65 < cLine) (I : Inv X pins σ H s) (g : Ex G H) (hd : DRel (kw X) G H D ks vals) (hx : Is (kw X) G y kd) (hf : keyFit kd ks) (hl : ks.length < sizeLine)
    (ry : RelV y uk) (rz : RelV z uz) (q : ∀ (ob : HO) (s1 : Shared), DPutX (kw X) G H D ks vals kd z ob → Mut (some ob) → Inv X pins σ (upd H D ob) s1 → Q () s1) : wpAny (model X.prog X.w) X.A (dictSet D uk uz) Q E s := by
  have mu := hd.mut
  obtain ⟨⟨nk, e1, e2⟩, hk⟩ := hf
  rcases hk with ⟨t1, t2⟩ | ⟨t1, t2⟩
  · obtain ⟨ys, d1, d2, d3, d4, d5, d6⟩ := hd.tup I g t2
    cases kd with
    | tuple ds =>
      cases hx with | @tup b us _ hs hdz hz ha =>
      obtain rfl : uk = .ref b := ry
      have hb : Is (kw X) G (.ref b) (.tuple ds) := .tup hs hdz hz ha
      have ly : ks.length = ys.length := by simpa using congrArg List.length d2
      refine wpAny_dictSet_heap (knd := nestedKind X.prog X.w) (hsz := d5) (by show X.A.units + 8 < cLine; omega) ⟨Is.nested I g hb e1 rfl, e2⟩ d1 fun h1 ⟨o1, es, ep, g1, g2, g3, g4, g5, g6⟩ sb => ?_
      obtain ⟨s1, s2, s3⟩ := stored_rel (K := kw X) e1 hb rz d2 d3 d4
      refine q (rawO D o1) _ (fun H2 eH => DRel.ofT (K := kw X) (P := X.prog) s1 (fun y hy => (g5 y hy).2) s2 s3 ?_ d6 g2 g3 g4 g6 eH) True.intro (d_write I mu sb ⟨o1, g1⟩ (ob := rawO D o1) (raw_ok g1))
      unfold storedH
      split
      · simpa using d5
      · simp; omega
    | _ => simp [isT] at t1
  · obtain ⟨vs, d1, rfl, d3, d4, d5, d6⟩ := hd.sc I t2
    obtain ⟨k, rfl⟩ := sc_key t1
    have hik := sc_is hx
    subst hik
    refine wpAny_dictSet_pairs (hsz := d5) (kV_is ry) d1 fun h1 ⟨o1, es, ep, g1, g2, g3, g4, g5, g6⟩ sb => ?_
    obtain ⟨s1, s2, s3⟩ := stored_sc (K := kw X) (u := uz) hx rz d3 d4
    refine q (rawO D o1) _ (fun H2 eH => ?_) True.intro (d_write I mu sb ⟨o1, g1⟩ (ob := rawO D o1) (raw_ok g1))
    rw [s1]
    refine DRel.ofS (K := kw X) (P := X.prog) s2 s3 ?_ d6 g2 g3 g4 g5 g6 eH
    rw [List.length_map] at hl
    unfold stored
    split
    · simpa using d5
    · simp; omega
end
/-- an empty dict's object -/
abbrev noneO (D : Addr) : HO := rawO D { cls := .type "dict", data := .dict #[] }
section
variable {X : Cx}
/-- {k: v for target in src if ..}: D the new dict, as it stands -/
def tDcR (K : KW) (wi : TI) (g : TG) (tt : TT) (tk tv : TE) (vs : List Nat) : TE := fun σ H Q => wi σ H fun J Ha => ∀ D, Ha D = none → (D == sysModules) = false → ∃ W : Nat → Nat → Hp → Prop, (∃ m, W 0 m (upd Ha D (noneO D))) ∧ ∀ i m Hb, W i m Hb →
  (J.stop i Hb ∧ Q (.ref D) Hb) ∨ (J.go i Hb ∧ ∃ Nx : Hp → Prop, (∀ Hc, Nx Hc → ∃ m1, m1 < m ∧ W (i + 1) m1 Hc) ∧ ∀ x Hc, J.yld i Hb x Hc → g x (wipe σ vs) Hc fun σ2 H2 => wipe σ2 vs = wipe σ vs ∧ tt σ2 H2 fun b H3 =>
    if b = true then tk σ2 H3 fun y H4 => tv σ2 H4 fun z H5 => ∃ G ks vals kd, Ex G H5 ∧ DRel K G H5 D ks vals ∧ Is K G y kd ∧ keyFit kd ks ∧ ks.length < sizeLine ∧ ∀ ob : HO, DPutX K G H5 D ks vals kd z ob → Mut (some ob) → Nx (upd H5 D ob) else Nx H3)
theorem dcr_core {pins : List (Addr × Obj)} {s : Shared} {σ : L2.St} {H : Hp} {Q : VK} {ke ve tg src : Expr} {ifs : List Expr} {scope : Scope} {own : List (Str × Nat)} {pos pos2 : Pos} {wi : TI} {g : TG} {tt : TT} {tk tv : TE} {use : Option (Value → Sem Unit)} {Qf : Value → Shared → Prop}
    (hu : X.A.units + 65 < cLine) (hc : X.calm = true) (nd : X.N.Nodup) (inv : Inv X pins σ H s) (hi : PI X tg src wi) (ok : BlkOk X.N X.env.scope scope own)
    (hg : ∀ (t : Shared) (H : Hp) (C : Addr) (cl : List (Str × Addr)) (fp : List Addr), PG (X.blk t H scope (compEnvC scope cl C X.env) fp) tg g) (ht : ∀ (t : Shared) (H : Hp) (C : Addr) (cl : List (Str × Addr)) (fp : List Addr), PTs (X.blk t H scope (compEnvC scope cl C X.env) fp) ifs tt)
    (hk : ∀ (t : Shared) (H : Hp) (C : Addr) (cl : List (Str × Addr)) (fp : List Addr), PE (X.blk t H scope (compEnvC scope cl C X.env) fp) ke tk)
    (he : ∀ (t : Shared) (H : Hp) (C : Addr) (cl : List (Str × Addr)) (fp : List Addr), PE (X.blk t H scope (compEnvC scope cl C X.env) fp) ve tv) (hs : ∀ x, foldedSetIterable src X.env x = pure x)
    (h : tDcR (kw X) wi g tt tk tv (own.map (·.2)) σ H Q)
    (done : ∀ D C s1 m H1, Inv X pins σ H1 s1 → Q (.ref D) H1 → s1.heap.Ns C m → FpOk X pins H1 C → compPost (model X.prog X.w) X.A X.xe use Qf (.ref D) C (.ok .next) s1) :
    wpAny (model X.prog X.w) X.A (comprehension (.DictComp ke ve [⟨tg, src, ifs, 0⟩] scope pos) scope X.env pos2 newDict false (eval src X.env) use) Qf X.xe s := by
  have hfr : ∀ y ∈ scope.names, y.2 = .free → ∃ c, X.env.cells.lookup y.1 = some c := fun y hy e => (ok.free y hy e).elim (fun k => inv.ok.has _ (.inl k)) fun k => inv.ok.has _ (.inr k)
  refine wpAny_comprehension_free (use := use) rfl hs (closure_ok hfr) ok.kind (fun y hy e => by rw [ok.uniq y hy, e]) (thn (hi.run pins s σ H _ inv h) fun xv sa hx => thn hx fun itv sb hb => ?_)
  obtain ⟨it, fp, tn, J, Hb, e, Ib, T, stb, fb, q⟩ := hb
  subst e
  refine wpAny_newObj_type (newEnv_comp ?_)
  generalize hD : sb.heap.objs.size = D
  have hDn : Hb D = none := Ib.hok.fresh (Nat.le_of_eq hD)
  have hDs : (D == sysModules) = false := by rw [← hD]; exact beq_eq_false_iff_ne.mpr (Ne.symm (Nat.ne_of_lt Ib.big))
  obtain ⟨W, ⟨m0, w0⟩, turn⟩ := q D hDn hDs
  generalize hsc : ({ sb with heap := sb.heap.push { cls := .type "dict", data := .dict #[] } } : Shared) = sc
  have Ic : Inv X pins σ (upd Hb D (noneO D)) sc := by
    rw [← hsc]
    refine Ib.laid (t' := sb.toks) (fun b o e => Heap.get?_push_of_some _ e) (Nat.le_of_eq hD) (raw_ok ?_)
    rw [← hD]; exact Heap.get?_push_size _ rfl
  have hc3 : sc.heap = sb.heap.push { cls := .type "dict", data := .dict #[] } := by rw [← hsc]
  have small : ∀ b ∈ fp, b < sb.heap.objs.size := fun b hb => let ⟨o, e, _⟩ := T.obj _ _ stb b hb; Heap.lt_size e
  have fc : ∀ b ∈ fp, FpOk X pins (upd Hb D (noneO D)) b ∧ b < sc.heap.objs.size := fun b hb => by
    have lt := small b hb
    refine ⟨⟨?_, (fb b hb).2⟩, by rw [hc3, Heap.size_push]; exact Nat.lt_succ_of_lt lt⟩
    rw [upd_ne (by rw [← hD]; exact Nat.ne_of_lt lt)]; exact (fb b hb).1
  have stc : tn 0 sc.heap := T.keep _ _ _ stb fun b _ o e => by rw [hc3]; exact Heap.get?_push_of_some _ e
  have Id := block_start Ic ok nd fc
  have pg := hg sc (upd Hb D (noneO D)) sc.heap.objs.size (cellsFrom (sc.heap.objs.size + 1) scope.names (cloFrom X.env.cells scope.names [])) fp
  have pt := ht sc (upd Hb D (noneO D)) sc.heap.objs.size (cellsFrom (sc.heap.objs.size + 1) scope.names (cloFrom X.env.cells scope.names [])) fp
  have pk := hk sc (upd Hb D (noneO D)) sc.heap.objs.size (cellsFrom (sc.heap.objs.size + 1) scope.names (cloFrom X.env.cells scope.names [])) fp
  have pe := he sc (upd Hb D (noneO D)) sc.heap.objs.size (cellsFrom (sc.heap.objs.size + 1) scope.names (cloFrom X.env.cells scope.names [])) fp
  show codeAny _ _ (.compStart (.DictComp ke ve [⟨tg, src, ifs, 0⟩] scope pos) 0 (.ref it) (.ref D) (compEnvC scope (cellsFrom (sc.heap.objs.size + 1) scope.names (cloFrom X.env.cells scope.names [])) sc.heap.objs.size X.env)) (compPost (model X.prog X.w) X.A X.xe use Qf (.ref D) sc.heap.objs.size) { sc with heap := pushCells (sc.heap.push { cls := .type "dict", data := .dict #[] }) scope.names }
  have nof : ∀ b ∈ fp, (upd Hb D (noneO D)) b = none := fun b hb => (fc b hb).1.1
  generalize hce : compEnvC scope (cellsFrom (sc.heap.objs.size + 1) scope.names (cloFrom X.env.cells scope.names [])) sc.heap.objs.size X.env = ce at Id pg pt pk pe ⊢
  have cl0 : ce.locals = sc.heap.objs.size := by subst hce; rfl
  generalize hHc : upd Hb D (noneO D) = Hc at Ic Id pg pt pk pe w0 nof fc
  generalize hsd : ({ sc with heap := pushCells (sc.heap.push { cls := .type "dict", data := .dict #[] }) scope.names } : Shared) = sd at Id ⊢
  have std : tn 0 sd.heap := T.keep _ _ _ stc fun b _ o e => by rw [← hsd]; exact pushCells_keeps _ _ _ _ (Heap.get?_push_of_some _ e)
  have stat : ∀ {σ1 : L2.St} {H1 : Hp} {s1 : Shared}, Inv (X.blk sc Hc scope ce fp) [] σ1 H1 s1 → (∀ b ∈ fp, H1 b = none) → ∀ b ∈ fp, FpOk (X.blk sc Hc scope ce fp) [] H1 b := fun {σ1 H1 s1} I1 hn b hb =>
    ⟨hn b hb, (I1.ok.exf b hb).1, I1.ok.exfs b hb, .inl hb, fun x c e => (I1.ok.exf b hb).2 x c e, fun p hp => absurd (show p ∈ ([] : List (Addr × Obj)) ++ [] from hp) (by simp)⟩
  have loop : codeAny (model X.prog X.w) X.A (.compLoop (.DictComp ke ve [⟨tg, src, ifs, 0⟩] scope pos) 0 (.ref it) (.ref D) ce) (compPost (model X.prog X.w) X.A X.xe use Qf (.ref D) sc.heap.objs.size) sd := by
    refine compLoop_anyD (fun n s1 => ∃ i H1, Inv (X.blk sc Hc scope ce fp) [] (wipe σ (own.map (·.2))) H1 s1 ∧ tn i s1.heap ∧ (∀ b ∈ fp, H1 b = none) ∧ W i n H1) ?_ m0 ⟨0, Hc, Id, std, nof, w0⟩
    rintro n s5 ⟨i, H5, I5, st5, n5, w5⟩
    rcases turn i n H5 w5 with ⟨stop, qq⟩ | ⟨go, Nx, hNx, step⟩
    · refine thnF (T.done (X.blk sc Hc scope ce fp) rfl rfl rfl hc i [] s5 _ H5 (fun _ _ => False) I5 (stat I5 n5) st5 stop) fun r s6 ⟨hr, I6⟩ => ?_
      subst hr
      have I7 : Inv X pins σ H5 s6 := Ic.call' (ch := fp) I6.os I6.base I6.hok I6.bare fun b hb => ⟨(fc b hb).1.2.2.2.1, (fc b hb).1.2.1, (fc b hb).1.2.2.2.2.1, (fc b hb).1.2.2.2.2.2⟩
      have nC : H5 sc.heap.objs.size = none := cl0 ▸ (show H5 ce.locals = none from I6.free)
      obtain ⟨m, hn, _⟩ := I6.loc
      exact done D sc.heap.objs.size s6 m H5 I7 qq (cl0 ▸ (show s6.heap.Ns ce.locals m from hn)) (Ic.fpOk (Nat.le_refl _) nC)
    · refine thnF (T.item (X.blk sc Hc scope ce fp) rfl rfl rfl hc i [] s5 _ H5 (fun _ _ => False) I5 (stat I5 n5) st5 go) fun r s6 ⟨u, hr, h6⟩ => ?_
      subst hr
      refine thnF h6 fun _ s7 ⟨x, H7, I7, r7, y7, st7, n7⟩ => ?_
      have Ip := I7.pinned (stat I7 n7) (T.obj _ _ st7)
      refine thnF (pg.run _ s7 _ H7 x u _ Ip r7 (step x H7 y7)) fun _ s8 ⟨σ8, H8, I8, hw8, q8⟩ => ?_
      refine thnF (pt.run _ s8 σ8 H8 _ I8 q8) fun b s9 ⟨H9, I9, q9⟩ => ?_
      have fin : ∀ {s1 : Shared} {H1 : Hp}, Inv (X.blk sc Hc scope ce fp) ([] ++ pinsAt fp s7.heap) σ8 H1 s1 → Nx H1 → ∃ m, m < n ∧ ∃ i H1, Inv (X.blk sc Hc scope ce fp) [] (wipe σ (own.map (·.2))) H1 s1 ∧ tn i s1.heap ∧ (∀ b ∈ fp, H1 b = none) ∧ W i m H1 := fun {s1 H1} I1 nx => by
        obtain ⟨m1, hm, w1⟩ := hNx H1 nx
        have kept : ∀ b ∈ fp, ∀ o, s7.heap.get? b = some o → s1.heap.get? b = some o ∧ H1 b = none := fun b hb o e =>
          let z := I1.pin (b, o) (List.mem_append_right _ (List.mem_append_right _ (mem_pinsAt hb e))); ⟨z.1, z.2.1⟩
        refine ⟨m1, hm, i + 1, H1, (I1.unpinned (pins := [])).weak (by rw [← hw8, wipe_length]) (fun j v e => ?_), T.keep _ _ _ st7 fun b hb o e => (kept b hb o e).1, fun b hb => ?_, w1⟩
        · rw [← hw8] at e; exact (wipe_some e).1
        · obtain ⟨o, e, _⟩ := T.obj _ _ st7 b hb
          exact (kept b hb o e).2
      cases b with
      | false =>
        simp only [Bool.false_eq_true, if_false] at q9 ⊢
        exact fin I9 q9
      | true =>
        simp only [if_true] at q9 ⊢
        refine thnF (pk.run _ s9 σ8 H9 _ I9 q9) fun z sk ⟨yk, Hk, Ik, rk, qk⟩ => ?_
        refine thnF (pe.run _ sk σ8 Hk _ Ik qk) fun z2 sv ⟨yv, Hv, Iv, rv, Gv, ks, vals, kd, gx, dr, ix, fx, lx, nx⟩ => ?_
        exact dset_raw (X := X.blk sc Hc scope ce fp) hu Iv gx dr ix fx lx rk rv fun ob s1 d1 mu1 I1 => fin I1 (nx ob d1 mu1)
  exact codeAny_compStart_dict loop (T.self X.A 0 _ _ _ std loop)
theorem pe_dcr {ke ve tg src : Expr} {ifs : List Expr} {scope : Scope} {own : List (Str × Nat)} {pos : Pos} {wi : TI} {g : TG} {tt : TT} {tk tv : TE} (hu : X.A.units + 65 < cLine) (hc : X.calm = true) (nd : X.N.Nodup) (hi : PI X tg src wi) (ok : BlkOk X.N X.env.scope scope own)
    (hg : ∀ (t : Shared) (H : Hp) (C : Addr) (cl : List (Str × Addr)) (fp : List Addr), PG (X.blk t H scope (compEnvC scope cl C X.env) fp) tg g) (ht : ∀ (t : Shared) (H : Hp) (C : Addr) (cl : List (Str × Addr)) (fp : List Addr), PTs (X.blk t H scope (compEnvC scope cl C X.env) fp) ifs tt)
    (hk : ∀ (t : Shared) (H : Hp) (C : Addr) (cl : List (Str × Addr)) (fp : List Addr), PE (X.blk t H scope (compEnvC scope cl C X.env) fp) ke tk)
    (he : ∀ (t : Shared) (H : Hp) (C : Addr) (cl : List (Str × Addr)) (fp : List Addr), PE (X.blk t H scope (compEnvC scope cl C X.env) fp) ve tv) (hs : ∀ x, foldedSetIterable src X.env x = pure x := by intro _; rfl) :
    PE X (.DictComp ke ve [⟨tg, src, ifs, 0⟩] scope pos) (tDcR (kw X) wi g tt tk tv (own.map (·.2))) := by
  refine ⟨fun pins s σ H Q inv h => ?_⟩
  rw [arm_eval_DictComp]
  refine dcr_core hu hc nd inv hi ok hg ht hk he hs h fun D C s1 m H1 I1 q hn ⟨f0, f1, f2, f3, f4, f5⟩ => ⟨m, hn, fun h2 sb => ?_⟩
  exact ⟨.ref D, H1, I1.turned (t' := s1.toks) (fun b o hb e => (sb.2 b hb).trans e) f0 f1 f3 f4 f5, rfl, q⟩
end
/-! ### stored in a local -/
section
variable {X : Cx}
theorem ps_setDcr {i : Nat} {y : Str} {py : Pos} {ke ve tg src : Expr} {ifs : List Expr} {scope : Scope} {own : List (Str × Nat)} {pos spos : Pos} {wi : TI} {g : TG} {tt : TT} {tk tv : TE} (hu : X.A.units + 65 < cLine) (hc : X.calm = true) (nd : X.N.Nodup) (hy : X.N[i]? = some y) (hyl : X.env.scope.names.lookup y = some .local)
    (sw : swapsWith (.DictComp ke ve [⟨tg, src, ifs, 0⟩] scope pos) (some (.Name y py)) spos.line X.env = pure true) (hi : PI X tg src wi) (ok : BlkOk X.N X.env.scope scope own)
    (hg : ∀ (t : Shared) (H : Hp) (C : Addr) (cl : List (Str × Addr)) (fp : List Addr), PG (X.blk t H scope (compEnvC scope cl C X.env) fp) tg g) (ht : ∀ (t : Shared) (H : Hp) (C : Addr) (cl : List (Str × Addr)) (fp : List Addr), PTs (X.blk t H scope (compEnvC scope cl C X.env) fp) ifs tt)
    (hk : ∀ (t : Shared) (H : Hp) (C : Addr) (cl : List (Str × Addr)) (fp : List Addr), PE (X.blk t H scope (compEnvC scope cl C X.env) fp) ke tk)
    (he : ∀ (t : Shared) (H : Hp) (C : Addr) (cl : List (Str × Addr)) (fp : List Addr), PE (X.blk t H scope (compEnvC scope cl C X.env) fp) ve tv) (hs : ∀ x, foldedSetIterable src X.env x = pure x := by intro _; rfl) :
    PS X (.Assign [.Name y py] (.DictComp ke ve [⟨tg, src, ifs, 0⟩] scope pos) spos) (tAsg (tDcR (kw X) wi g tt tk tv (own.map (·.2))) (gName i)) := by
  refine ⟨fun pins s σ H D inv h => ?_⟩
  rw [exec_Assign_Name_used _ _ _ _ sw]
  refine wpAny_bind (wpAny_standAt (wpAny_bind ?_))
  show wpAny _ X.A (do let _ ← comprehension (.DictComp ke ve [⟨tg, src, ifs, 0⟩] scope pos) scope X.env (firstIterPos [⟨tg, src, ifs, 0⟩] pos) newDict false (eval src X.env) (some (assign (.Name y py) X.env))) _ _ s
  have h : tDcR (kw X) wi g tt tk tv (own.map (·.2)) σ H (fun x H1 => gName i x σ H1 D.nx) := h
  refine wpAny_bind (thn (dcr_core (Qf := fun _ s1 => L2.SP X pins D .next s1) hu hc nd inv hi ok hg ht hk he hs h fun L C s1 m H1 I1 q hn ⟨f0, f1, f2, f3, f4, f5⟩ => ?_) fun _ s1 hq => wpAny_pure (wpAny_pure hq))
  show wpAny _ _ (assign (.Name y py) X.env (.ref L)) _ _ _
  refine wpAny_assign_Name (store_ok2 (v := V.ref L) I1 nd hy (.inl hyl) rfl (fun s2 I2 ⟨a, sb, ha⟩ => ?_) (.inr hyl))
  have apart : C ≠ a := ha.elim (fun z => by rw [z]; exact f1) fun z e => f4 y a z e.symm
  exact ⟨m, hn.sameBut sb apart, fun h3 sb3 => ⟨_, H1, I2.turned (t' := s2.toks) (fun b o hb e => (sb3.2 b hb).trans e) f0 f1 f3 f4 f5, q⟩⟩
theorem sw_dict {ke ve : Expr} {gs : List Comprehension} {scope : Scope} {pos py : Pos} {y : Str} {l : Nat} {env : Env} (hk : env.scope.kind = .function) (hy : env.scope.names.lookup y = some .local) (hl : (py.line == pos.line) = true)
    (ha : (scope.names.any fun (n, k) => n == y && (k == .local || k == .cell)) = false) : swapsWith (.DictComp ke ve gs scope pos) (some (.Name y py)) l env = pure true := by
  have e1 : env.kindOf y = some .local := hy
  have e2 : env.blockKind = .function := by unfold Env.blockKind; rw [hk]; rfl
  unfold swapsWith
  simp only [e2, e1, ha, Expr.pos, hl]
  rfl
end
/-! ### by data -/
section
variable {X : Cx} {Z : Wish} {K : KW} {tg : Expr}
/-- the walk of a comprehension that makes a dict -/
@[irreducible] def dcR (ds : List PyData) (g : TGd) (c : TTd) (tk tv : TEd) (vs : List Nat) (ρ : En) (Q : W → Prop) : Prop := ∃ I : Nat → List (PyData × PyData) → Prop, I 0 [] ∧
  (∀ i x acc, ds[i]? = some x → I i acc → g x (wipeD ρ vs) fun ρ2 => c ρ2 fun b => iB b (tk ρ2 fun wk => onFw wk fun kd => tv ρ2 fun w => onFw w fun y => keyFit kd (dkeys acc) ∧ I (i + 1) (dput acc kd y)) (I (i + 1) acc)) ∧
  ∀ acc, I ds.length acc → Q (.x (.m acc))
def dDc (src : TId) (g : TGd) (c : TTd) (tk tv : TEd) (vs : List Nat) : TEd := fun ρ Q => src ρ fun ds => dcR ds g c tk tv vs ρ Q
theorem dput_le (kvs : List (PyData × PyData)) (kd x : PyData) : (dput kvs kd x).length ≤ kvs.length + 1 := dput_len kvs kd x
theorem snd_dc {wi : TI} {vs : List Nat} {src : TId} {g : TGd} {c : TTd} {tk tv : TEd} (hi : SndI true K Z wi src) : Snd K Z (tDcR K wi (cG K vs g) (cT K Z0 c) (cE K Z0 tk) (cE K Z0 tv) vs) (dDc src g c tk tv vs) := by
  intro G0 H0 G H σ ρ Q' Q E gd hh k
  refine hi G0 H0 G H σ ρ _ _ E gd hh fun J G1 H1 ds u1 itok zl q D hD hDs => ?_
  unfold dcR at q
  obtain ⟨I, i0, istep, iend⟩ := q
  have itok' : ItOk K G1 H1 J ds := itok
  refine ⟨fun i m H2 => m = ds.length - i ∧ i ≤ ds.length ∧ ∃ G2 acc vals, Up G1 H1 G2 H2 ∧ G2 D = none ∧ DRel K G2 H2 D (dkeys acc) vals ∧ IsAll K G2 vals (dvals acc) ∧ acc.length ≤ i ∧ I i acc,
    ⟨ds.length, by simp, Nat.zero_le _, G1, [], [], Up.newH u1.gh hD, u1.gh.back hD, drel_nil hDs upd_same, .nil, Nat.le_refl _, i0⟩, ?_⟩
  rintro i m H2 ⟨rfl, hi2, G2, acc, vals, u2, gD, hw, al, la, hI⟩
  obtain ⟨t1, t2⟩ := itok' G2 H2 u2.g u2.gh u2.h i
  by_cases hlt : i < ds.length
  · obtain ⟨hgo, hy⟩ := t1 ds[i] (List.getElem?_eq_getElem hlt)
    refine .inr ⟨hgo, fun Hn => ∃ m1, m1 < ds.length - i ∧ (m1 = ds.length - (i + 1) ∧ i + 1 ≤ ds.length ∧ ∃ G2 acc vals, Up G1 H1 G2 Hn ∧ G2 D = none ∧ DRel K G2 Hn D (dkeys acc) vals ∧ IsAll K G2 vals (dvals acc) ∧ acc.length ≤ i + 1 ∧ I (i + 1) acc), fun Hn h => h, fun x H3 y => ?_⟩
    obtain ⟨G3, u3, ix⟩ := hy x H3 y
    have u13 := u2.trans u3
    have E3 := (E.to (u1.trans u13)).wipe vs
    have nD2 : H2 D ≠ none := hw.ne
    refine ⟨G0, H0, G3, wipeD ρ vs, ds[i], _, E3, ix, istep i _ acc (List.getElem?_eq_getElem hlt) hI, fun σ1 ρ1 E1 l1 s1 h1 => ⟨?_, G0, H0, G3, ρ1, _, E1, good0, h1, fun b G4 H4 u4 q4 => ?_⟩⟩
    · rw [show wipe σ1 vs = wipe (wipe σ vs) vs from wipe_same l1 s1]
      exact wipe_same (wipe_length σ vs) fun i hi => wipe_keep hi
    · have u14 := u13.trans u4
      have u24 := u3.trans u4
      have gD4 : G4 D = none := u24.sep D nD2 gD
      have dr4 : DRel K G4 H4 D (dkeys acc) vals := hw.up u24.g (u24.h D)
      have al4 := al.up u24.g
      cases b with
      | true =>
        replace q4 := (iB_eq true _ _).mp q4
        rw [if_pos rfl] at q4
        refine iteT ?_
        refine ⟨G0, H0, G4, ρ1, _, E1.to u4, good0, q4, fun v w G5 H5 u5 r5 q5 => ?_⟩
        obtain ⟨kd, e1, h5⟩ := onFw_of q5
        have nD4 : H4 D ≠ none := dr4.ne
        have f5 := frzAll_up u5
        have iv := r5.frz u5.gh e1
        have E5 := E1.to (u4.trans f5)
        refine ⟨G0, H0, frzAll H4 G5 H5, ρ1, _, E5, good0, h5, fun v2 w2 G6 H6 u6 r6 q6 => ?_⟩
        obtain ⟨y2, e2, kf, hI2⟩ := onFw_of q6
        have f6 := frzAll_up u6
        have iv2 := r6.frz u6.gh e2
        have u46 := f5.trans f6
        have dr6 : DRel K (frzAll H5 G6 H6) H6 D (dkeys acc) vals := dr4.up u46.g (u46.h D)
        have gD6 : (frzAll H5 G6 H6) D = none := u46.sep D nD4 gD4
        refine ⟨frzAll H5 G6 H6, dkeys acc, vals, kd, f6.gh, dr6, iv.up f6.g, kf, by rw [List.length_map]; have := zl; omega, fun ob dp mu => ?_⟩
        refine ⟨ds.length - (i + 1), by omega, rfl, hlt, frzAll H5 G6 H6, dput acc kd y2, dputV (dkeys acc) vals kd v2, (u14.trans u46).mutH gD6 hD, gD6, ?_, ?_, ?_, hI2⟩
        · rw [dput_keys]
          exact dp _ upd_same
        · rw [dput_vals]
          exact IsAll.dputV iv2 (al4.up u46.g)
        · have := dput_len acc kd y2; omega
      | false =>
        have e0 : ¬ (false = true) := Bool.false_ne_true
        replace q4 := (iB_eq false _ _).mp q4
        rw [if_neg e0] at q4
        refine iteF ?_
        exact ⟨ds.length - (i + 1), by omega, rfl, hlt, G4, acc, vals, u14, gD4, dr4, al4, by omega, q4⟩
  · have e : i = ds.length := by omega
    subst e
    exact .inl ⟨t2 rfl, k (.ref D) (.x (.m acc)) G2 H2 (u1.trans u2) ⟨D, vals, rfl, u1.h.back hD, gD, trivial, hw, al⟩ (iend acc hI)⟩
/-- {k: v for target in src if ..} -/
theorem d_dc {ke ve tg iter : Expr} {pos : Pos} {ifs : List Expr} {scope : Scope} {own : List (Str × Nat)} {src : TId} {g : TGd} {c : TTd} {tk tv : TEd} (hu : X.A.units + 65 < cLine) (hc : X.calm = true) (hN : X.N.Nodup) (hi : PDI true X Z tg iter src) (ok : BlkOk X.N X.env.scope scope own)
    (hg : ∀ (s : Shared) (H : Hp) (C : Addr) (cl : List (Str × Addr)) (fp : List Addr), PDG (X.blk s H scope (compEnvC scope cl C X.env) fp) (own.map (·.2)) tg g) (ht : ∀ (s : Shared) (H : Hp) (C : Addr) (cl : List (Str × Addr)) (fp : List Addr), PDTs (X.blk s H scope (compEnvC scope cl C X.env) fp) Z0 ifs c)
    (hk : ∀ (s : Shared) (H : Hp) (C : Addr) (cl : List (Str × Addr)) (fp : List Addr), PD (X.blk s H scope (compEnvC scope cl C X.env) fp) Z0 ke tk)
    (he : ∀ (s : Shared) (H : Hp) (C : Addr) (cl : List (Str × Addr)) (fp : List Addr), PD (X.blk s H scope (compEnvC scope cl C X.env) fp) Z0 ve tv) (hs : ∀ x, foldedSetIterable iter X.env x = pure x := by intro _; rfl) :
    PD X Z (.DictComp ke ve [⟨tg, iter, ifs, 0⟩] scope pos) (dDc src g c tk tv (own.map (·.2))) := by
  obtain ⟨wi, p, s⟩ := hi
  exact ⟨_, pe_dcr hu hc hN p ok (fun s H C cl fp => (hg s H C cl fp).pg) (fun s H C cl fp => (ht s H C cl fp).pts) (fun s H C cl fp => (hk s H C cl fp).pe) (fun s H C cl fp => (he s H C cl fp).pe) hs, snd_dc s⟩
theorem ds_setDc {i : Nat} {y : Str} {py spos : Pos} {ke ve tg iter : Expr} {pos : Pos} {ifs : List Expr} {scope : Scope} {own : List (Str × Nat)} {src : TId} {g : TGd} {c : TTd} {tk tv : TEd} (hu : X.A.units + 65 < cLine) (hc : X.calm = true) (hN : X.N.Nodup)
    (hsw : swapsWith (.DictComp ke ve [⟨tg, iter, ifs, 0⟩] scope pos) (some (.Name y py)) spos.line X.env = pure true) (hi : PDI true X Z tg iter src) (ok : BlkOk X.N X.env.scope scope own)
    (hg : ∀ (s : Shared) (H : Hp) (C : Addr) (cl : List (Str × Addr)) (fp : List Addr), PDG (X.blk s H scope (compEnvC scope cl C X.env) fp) (own.map (·.2)) tg g) (ht : ∀ (s : Shared) (H : Hp) (C : Addr) (cl : List (Str × Addr)) (fp : List Addr), PDTs (X.blk s H scope (compEnvC scope cl C X.env) fp) Z0 ifs c)
    (hk : ∀ (s : Shared) (H : Hp) (C : Addr) (cl : List (Str × Addr)) (fp : List Addr), PD (X.blk s H scope (compEnvC scope cl C X.env) fp) Z0 ke tk)
    (he : ∀ (s : Shared) (H : Hp) (C : Addr) (cl : List (Str × Addr)) (fp : List Addr), PD (X.blk s H scope (compEnvC scope cl C X.env) fp) Z0 ve tv) (hy : X.N[i]? = some y := by rfl) (hyl : X.env.scope.names.lookup y = some .local := by rfl) (hs : ∀ x, foldedSetIterable iter X.env x = pure x := by intro _; rfl) :
    PDS X Z (.Assign [.Name y py] (.DictComp ke ve [⟨tg, iter, ifs, 0⟩] scope pos) spos) (sSet i (dDc src g c tk tv (own.map (·.2)))) := by
  obtain ⟨wi, p, s⟩ := hi
  exact ⟨_, ps_setDcr hu hc hN hy hyl hsw p ok (fun s H C cl fp => (hg s H C cl fp).pg) (fun s H C cl fp => (ht s H C cl fp).pts) (fun s H C cl fp => (hk s H C cl fp).pe) (fun s H C cl fp => (he s H C cl fp).pe) hs, snd_set (snd_dc s)⟩
end
/-! by type -/
section
variable {α β γ : Type} [DecidableEq β] [Enc β] [DecidableEq γ] [Enc γ] {xs : List α} {en : α → PyData} {g : TGd} {c : TTd} {tk tv : TEd} {vs : List Nat} {ρ : En} {Q : W → Prop}
theorem dcR_td [EncK β] (f : α → Option (β × γ)) (h : ∀ x ∈ xs, ∀ (k : PyData → PyData → Prop) (z : Prop), (∀ p, f x = some p → k (Enc.d p.1) (Enc.d p.2)) → (f x = none → z) → g (en x) (wipeD ρ vs) fun ρ2 => c ρ2 fun b => iB b (tk ρ2 fun wk => onFw wk fun kd => tv ρ2 fun w => onFw w fun y => k kd y) z)
    (q : Q (.x (.m (td ((xs.filterMap f).foldl (fun kvs p => putT kvs p.1 p.2) []))))) (hl : Enc.lvl β ≤ 8 := by decide) : dcR (xs.map en) g c tk tv vs ρ Q := by
  unfold dcR
  refine ⟨fun i acc => acc = td (((xs.take i).filterMap f).foldl (fun kvs p => putT kvs p.1 p.2) []), rfl, fun i x acc hx hI => ?_, fun acc hI => ?_⟩
  · obtain ⟨a, ha, rfl⟩ := map_some hx
    have et : (xs.take (i + 1)).filterMap f = (xs.take i).filterMap f ++ (f a).toList := by
      rw [List.take_add_one, ha, List.filterMap_append]
      cases e : f a <;> simp [e]
    refine h a (List.mem_of_getElem? ha) (fun kd y => keyFit kd (dkeys acc) ∧ dput acc kd y = td (((xs.take (i + 1)).filterMap f).foldl (fun kvs p => putT kvs p.1 p.2) [])) _ (fun p hp => ⟨?_, ?_⟩) fun hn => ?_
    · rw [hI]; exact fit_td rfl hl
    · rw [et, hp, List.foldl_append, hI]
      exact dput_td rfl rfl
    · show acc = _
      rw [et, hn, Option.toList, List.append_nil]; exact hI
  · rw [hI, List.length_map, List.take_length]; exact q
/-- the keys, each once -/
theorem putT_fold : ∀ (ps : List (β × γ)) (kvs : List (β × γ)), (kvs.map (·.1)).Nodup → ((ps.foldl (fun kvs p => putT kvs p.1 p.2) kvs).map (·.1)).Nodup ∧ ∀ k, k ∈ (ps.foldl (fun kvs p => putT kvs p.1 p.2) kvs).map (·.1) ↔ k ∈ kvs.map (·.1) ∨ k ∈ ps.map (·.1)
  | [], kvs, h => ⟨h, fun k => by simp⟩
  | p :: ps, kvs, h => by
    have h1 : ((putT kvs p.1 p.2).map (·.1)).Nodup := by
      rw [putT_keys]
      split
      · exact h
      · exact nodup_snoc h (by assumption)
    have m1 : ∀ k, k ∈ (putT kvs p.1 p.2).map (·.1) ↔ k ∈ kvs.map (·.1) ∨ k = p.1 := fun k => by
      rw [putT_keys]
      split
      · rename_i e
        exact ⟨.inl, fun z => z.elim id fun z => z ▸ e⟩
      · rw [List.mem_append, List.mem_singleton]
    obtain ⟨q1, q2⟩ := putT_fold ps _ h1
    refine ⟨q1, fun k => (q2 k).trans ?_⟩
    rw [m1, List.map_cons, List.mem_cons, or_assoc]
end
end DL

/-! DL41: rows that are sure. -/
namespace DL
open PySem PySem.Spec PyProof.Rows L2
/-- the row answers in every mending -/
def Sure (ts : List Tb) (gs : List Fact) (js : List Join) (row : VRow) : Prop := ∀ ms, Each MP (blocksG ts gs) ms → Ans ms js row
theorem mend_sub {ts : List Tb} {gs ms : List Fact} (h : Each MP (blocksG ts gs) ms) : ∀ m ∈ ms, m ∈ gs := mend_mem h.mend
theorem mend_len {ts : List Tb} {gs ms : List Fact} (h : Each MP (blocksG ts gs) ms) : ms.length ≤ gs.length := by
  rw [← h.len]; exact blocks_len ts gs
theorem StoreFit.sub {s1 s2 : List Fact} {body : List Atom} (h : StoreFit s2 body) (sub : ∀ f ∈ s1, f ∈ s2) (nd : s1.Nodup) : StoreFit s1 body := by
  have l := nodup_len nd sub
  exact ⟨Arity.mono sub h.rows, h.wide, by have := h.few; omega, nd, Nat.le_trans (Nat.pow_le_pow_left (by unfold szF; omega) _) h.many⟩
theorem QFit.sub {s1 s2 : List Fact} {js : List Join} (h : QFit s2 js) (sub : ∀ f ∈ s1, f ∈ s2) (nd : s1.Nodup) : QFit s1 js := ⟨fun j hj => (h.fit j hj).sub sub nd, h.hd, Nat.le_trans (sum_mono fun j _ => Nat.pow_le_pow_left (by have := nodup_len nd sub; unfold szF; omega) _) h.tot⟩
theorem QFit.mend {ts : List Tb} {gs ms : List Fact} {js : List Join} (ga : Asc gs) (ht : ∀ f ∈ gs, hasT ts f) (h : QFit gs js) (em : Each MP (blocksG ts gs) ms) : QFit ms js := h.sub (mend_sub em) (mend_nodup ga ht em)
theorem sure_num {ts : List Tb} {gs : List Fact} {js : List Join} (bo : BOk (blocksG ts gs)) (row : VRow) : Sure ts gs js row ↔ ∀ n : Nat, (n : Int) < prodF (blocksG ts gs) → Ans (mendF (blocksG ts gs) n) js row := by
  constructor
  · exact fun h n _ => h _ (mend_ok bo n)
  · intro h ms em
    obtain ⟨n0, n1, e⟩ := num_lt bo em
    obtain ⟨n, hn⟩ := Int.eq_ofNat_of_zero_le n0
    rw [← e, hn]
    exact h n (by omega)
theorem Sure.ans {ts : List Tb} {gs : List Fact} {js : List Join} {row : VRow} (bo : BOk (blocksG ts gs)) (h : Sure ts gs js row) : Ans gs js row := (h _ (mend_ok bo 0)).mono (mend_sub (mend_ok bo 0))
theorem memT_no {α : Type} [DecidableEq α] {a : α} {xs : List α} (h : ¬ a ∈ xs) : memT a xs = false := by
  cases e : memT a xs with
  | false => rfl
  | true => exact absurd (memT_iff.mp e) h
theorem allF_cons (b : Block) (bs : List Block) : allF (b :: bs) = factsB b ++ allF bs := rfl
theorem prodF_le : ∀ bs : List Block, prodF bs ≤ ((2 ^ (allF bs).length : Nat) : Int)
  | [] => Int.le_refl _
  | b :: bs => by
    have ih := prodF_le bs
    rw [prodF_cons, allF_cons, List.length_append, Nat.pow_add]
    have h1 : (factsB b).length = b.c.length := List.length_map ..
    rw [h1]
    have h2 : b.c.length ≤ 2 ^ b.c.length := Nat.le_of_lt Nat.lt_two_pow_self
    have h3 : (b.c.length : Int) * prodF bs ≤ (b.c.length : Int) * ((2 ^ (allF bs).length : Nat) : Int) := Int.mul_le_mul_of_nonneg_left ih (by omega)
    refine Int.le_trans h3 ?_
    rw [← Int.natCast_mul]
    exact Int.ofNat_le.mpr (Nat.mul_le_mul_right _ h2)
theorem prodF_small {ts : List Tb} {gs : List Fact} (ga : Asc gs) (ht : ∀ f ∈ gs, hasT ts f) (l : gs.length ≤ 9) : prodF (blocksG ts gs) ≤ 512 := by
  have := prodF_le (blocksG ts gs)
  rw [blocks_all ga ht] at this
  have h2 : 2 ^ gs.length ≤ 2 ^ 9 := Nat.pow_le_pow_right (by decide) l
  omega
/-- the rows that are left after the mendings -/
def leftF (rows : List VRow) (ms : List (List Fact)) (js : List Join) : List VRow := ms.foldl (fun rs m => rs.filter fun r => memT r (setF (rowsF m js))) rows
theorem leftF_snoc (rows : List VRow) (ms : List (List Fact)) (m : List Fact) (js : List Join) : leftF rows (ms ++ [m]) js = (leftF rows ms js).filter fun r => memT r (setF (rowsF m js)) := by
  unfold leftF
  rw [List.foldl_append]; rfl
theorem leftF_asc {rows : List VRow} (js : List Join) (h : Asc rows) : ∀ ms, Asc (leftF rows ms js) := snocInd h fun ms m ih => by
  rw [leftF_snoc]; exact ih.filter _
theorem leftF_mem {rows : List VRow} {js : List Join} {r : VRow} : ∀ ms : List (List Fact), (∀ m ∈ ms, QFit m js) → (r ∈ leftF rows ms js ↔ r ∈ rows ∧ ∀ m ∈ ms, Ans m js r) := by
  refine snocInd (fun _ => ⟨fun h => ⟨h, fun m hm => by cases hm⟩, fun h => h.1⟩) fun ms m ih q => ?_
  have ih := ih fun k hk => q k (List.mem_append_left _ hk)
  have qm := q m (List.mem_append_right _ (List.mem_singleton.mpr rfl))
  rw [leftF_snoc, List.mem_filter, ih, memT_iff, setF_mem, mem_rowsF qm]
  constructor
  · rintro ⟨⟨h1, h2⟩, h3⟩
    exact ⟨h1, fun k hk => (List.mem_append.mp hk).elim (h2 k) fun z => by rw [List.mem_singleton.mp z]; exact h3⟩
  · rintro ⟨h1, h2⟩
    exact ⟨⟨h1, fun k hk => h2 k (List.mem_append_left _ hk)⟩, h2 m (List.mem_append_right _ (List.mem_singleton.mpr rfl))⟩
theorem leftF_sub {rows : List VRow} {js : List Join} : ∀ ms : List (List Fact), ∀ r ∈ leftF rows ms js, r ∈ rows := snocInd (fun r h => h) fun ms m ih r h => by
  rw [leftF_snoc] at h
  exact ih r (List.mem_filter.mp h).1
theorem leftF_len (rows : List VRow) (js : List Join) : ∀ ms, (leftF rows ms js).length ≤ rows.length := snocInd (Nat.le_refl _) fun ms m ih => by
  rw [leftF_snoc]; exact Nat.le_trans (List.length_filter_le ..) ih
theorem setF_asc' {α : Type} [SO α] [DecidableEq α] (xs : List α) : Asc (setF xs) := setF_asc xs
theorem mends_mp {bs : List Block} (bo : BOk bs) : ∀ m ∈ mendsF bs, Each MP bs m := fun m hm => by
  obtain ⟨i, hi, e⟩ := List.getElem_of_mem hm
  have := (mends_at bo).2 i hi
  rw [List.getElem?_eq_getElem hi, e] at this
  rw [Option.some.inj this]
  exact mend_ok bo i
theorem mends_mem {bs : List Block} (bo : BOk bs) {m : List Fact} (em : Each MP bs m) : m ∈ mendsF bs := by
  obtain ⟨n0, n1, e⟩ := num_lt bo em
  obtain ⟨n, hn⟩ := Int.eq_ofNat_of_zero_le n0
  obtain ⟨m1, m2⟩ := mends_at bo
  have := m2 n (by omega)
  rw [← hn, e] at this
  exact List.mem_of_getElem? this
theorem sure_mends {ts : List Tb} {gs : List Fact} {js : List Join} (bo : BOk (blocksG ts gs)) (row : VRow) : Sure ts gs js row ↔ ∀ m ∈ mendsF (blocksG ts gs), Ans m js row :=
  ⟨fun h m hm => h m (mends_mp bo m hm), fun h m em => h m (mends_mem bo em)⟩
theorem sure_put {ts : List Tb} {gs : List Fact} {js : List Join} {row : VRow} (hl : ∀ j ∈ js, row.length = j.1.length) : Sure ts gs (js.filterMap (putJ row)) [] ↔ Sure ts gs js row :=
  ⟨fun h m em => (ans_put hl).mp (h m em), fun h m em => (ans_put hl).mpr (h m em)⟩
theorem range_filter_nil {n : Nat} {p : Nat → Bool} : (((List.range n).filter p).length : Int) = 0 ↔ ∀ k < n, p k = false := by
  have e : ((((List.range n).filter p).length : Nat) : Int) = 0 ↔ (List.range n).filter p = [] := by
    rw [← List.length_eq_zero_iff]; omega
  rw [e, List.filter_eq_nil_iff]
  exact ⟨fun h k hk => by simpa using h k (List.mem_range.mpr hk), fun h k hk => by rw [h k (List.mem_range.mp hk)]; decide⟩
/-- the rows of a closed question that are sure -/
theorem sure_closed {ts : List Tb} {gs : List Fact} {js : List Join} {rows : List VRow} (bo : BOk (blocksG ts gs)) (hh : ∀ j ∈ js, j.1 = []) (ha : Asc rows) (hr : ∀ r, r ∈ rows ↔ Sure ts gs js r) : (Sure ts gs js [] → rows = [[]]) ∧ (¬ Sure ts gs js [] → rows = []) := by
  have only : ∀ r ∈ rows, r = [] := fun r hm => by
    have := ((hr r).mp hm).ans bo
    exact List.length_eq_zero_iff.mp (this.len (n := 0) fun j hj => by rw [hh j hj]; rfl)
  constructor
  · intro h
    refine asc_unique ha (List.pairwise_singleton ..) fun r => ?_
    rw [List.mem_singleton]
    exact ⟨only r, fun e => by rw [e]; exact (hr []).mpr h⟩
  · intro h
    refine List.eq_nil_iff_forall_not_mem.mpr fun r hm => h ?_
    rw [← only r hm]
    exact (hr r).mp hm
end DL

/-! DL42: pools of words, small worlds. -/
namespace DL
open PySem PySem.Spec PyProof.Rows L2
theorem joinE_cps : ∀ xs : List Str, (Str.join (Str.ofString "") xs).cps.toList = xs.flatMap (·.cps.toList)
  | [] => rfl
  | [x] => by
    show x.cps.toList = _
    rw [List.flatMap_cons, List.flatMap_nil, List.append_nil]
  | x :: y :: r => by
    have ih := joinE_cps (y :: r)
    show ((x ++ Str.ofString "" ++ Str.join (Str.ofString "") (y :: r)).cps.toList) = _
    show ((x.cps ++ (Str.ofString "").cps) ++ (Str.join (Str.ofString "") (y :: r)).cps).toList = _
    rw [Array.toList_append, Array.toList_append, ih]
    show x.cps.toList ++ [] ++ _ = _
    simp only [List.append_nil, List.flatMap_cons]
def lens (xs : List Str) : Nat := (xs.map (·.length)).sum
theorem lens_snoc (xs : List Str) (x : Str) : lens (xs ++ [x]) = lens xs + x.length := by
  unfold lens
  rw [List.map_append, List.sum_append]; simp
theorem le_lens {x : Str} : ∀ {xs : List Str}, x ∈ xs → x.length ≤ lens xs
  | y :: ys, h => by
    show _ ≤ y.length + lens ys
    rcases List.mem_cons.mp h with z | z
    · rw [z]; omega
    · have := le_lens z; omega
theorem joinE_len : ∀ xs : List Str, (Str.join (Str.ofString "") xs).length = lens xs := fun xs => by
  rw [len_cps, joinE_cps]
  unfold lens
  rw [List.length_flatMap]
  congr 1
theorem joinZ {xs : List Str} (h : ∀ x ∈ xs, isW x = true) : isW (Txt.join (Str.ofString "") xs ++ Str.ofString "z") = true ∧ (Txt.join (Str.ofString "") xs ++ Str.ofString "z").length = lens xs + 1 := by
  rw [TL.join_eq, str_len, joinE_len]
  refine ⟨?_, rfl⟩
  rw [isW_iff]
  have e : (Str.join (Str.ofString "") xs ++ Str.ofString "z").cps.toList = xs.flatMap (·.cps.toList) ++ [122] := by
    show ((Str.join (Str.ofString "") xs).cps ++ (Str.ofString "z").cps).toList = _
    rw [Array.toList_append, joinE_cps]; rfl
  rw [e]
  refine ⟨by simp, fun c hc => ?_⟩
  rcases List.mem_append.mp hc with z | z
  · obtain ⟨x, hx, hc⟩ := List.mem_flatMap.mp z
    exact (isW_iff.mp (h x hx)).2 c hc
  · rw [List.mem_singleton.mp z]; rfl
/-- the pool so far -/
def Pool (xs : List Str) (i : Nat) : Prop := xs.length = i ∧ xs.Nodup ∧ (∀ x ∈ xs, isW x = true) ∧ lens xs + 3 ≤ 3 * 2 ^ i
theorem Pool.nil : Pool [] 0 := ⟨rfl, .nil, (fun x hx => by cases hx), by decide⟩
theorem Pool.grow {xs : List Str} {i : Nat} {x : Str} (h : Pool xs i) (h1 : isW x = true) (h2 : x ∉ xs) (h3 : x.length ≤ 3 ∨ x.length = lens xs + 1) : Pool (xs ++ [x]) (i + 1) := by
  obtain ⟨a, b, c, d⟩ := h
  refine ⟨by rw [List.length_append, a]; rfl, nodup_snoc b h2, all_app c h1, ?_⟩
  rw [lens_snoc, Nat.pow_succ]
  have : 1 ≤ 2 ^ i := Nat.one_le_two_pow
  omega
theorem Pool.short {xs : List Str} {i : Nat} (h : Pool xs i) (hi : i ≤ 12) : lens xs ≤ 20000 := by
  have := h.2.2.2
  have h2 : 2 ^ i ≤ 2 ^ 12 := Nat.pow_le_pow_right (by decide) hi
  omega
/-- a small world -/
structure SmallW (ts : List Tb) (ns : List Str) (vs : List Val) : Prop where
  so : SchOk ts
  t2 : 2 ≤ ts.length
  t4 : ts.length ≤ 4
  tw : ∀ t ∈ ts, t.k ≤ 3 ∧ t.r ≤ 3 ∧ t.n.length ≤ 20000
  n4 : ns.length = 4
  srt : Srt ns
  nd : ns.Nodup
  nw : ∀ x ∈ ns, isW x = true ∧ x.length ≤ 20000
  nt : ∀ t ∈ ts, t.n ∉ ns
  v3 : vs.length = 3
  vo : ∀ v ∈ vs, v.ok = true
  vl : ∀ v ∈ vs, ∀ x, v = .s x → x.length ≤ 20000
theorem erase_perm {α : Type} {xs : List α} {k : Nat} (h : k < xs.length) : (xs[k] :: xs.eraseIdx k).Perm xs := by
  rw [List.eraseIdx_eq_take_drop_succ]
  refine List.Perm.trans List.perm_middle.symm ?_
  rw [← split_at h]
end DL

/-! DL43: mendings as sets. -/
namespace DL
open PySem PySem.Spec PyProof.Rows L2
/-- S is a mending of G -/
structure MendS (ts : List Tb) (G S : Fact → Prop) : Prop where
  sub : ∀ f, S f → G f
  cov : ∀ f, G f → ∃ m, S m ∧ placeF ts m = placeF ts f
  one : ∀ m k, S m → S k → placeF ts m = placeF ts k → m = k
/-- the row answers in the set -/
def AnsS (S : Fact → Prop) (js : List Join) (row : VRow) : Prop := ∃ j ∈ js, ∃ v : Str → Val, (∀ a ∈ j.2, S (a.1, a.2.map (ev v))) ∧ j.1.map (ev v) = row
theorem ans_set {store : List Fact} {js : List Join} {row : VRow} : Ans store js row ↔ AnsS (· ∈ store) js row := Iff.rfl
theorem AnsS.mono {S T : Fact → Prop} {js : List Join} {row : VRow} (h : ∀ f, S f → T f) : AnsS S js row → AnsS T js row := fun ⟨j, hj, v, q, e⟩ => ⟨j, hj, v, fun a ha => h _ (q a ha), e⟩
theorem Each.ofMap {α β : Type} {P : α → β → Prop} {f : α → β} : ∀ {xs : List α}, (∀ x ∈ xs, P x (f x)) → Each P xs (xs.map f)
  | [], _ => .nil
  | x :: xs, h => .cons (h x List.mem_cons_self) (Each.ofMap fun y hy => h y (List.mem_cons_of_mem _ hy))
section
variable {ts : List Tb} {gs : List Fact}
/-- a fact is in the block of its place -/
theorem blk_of (ga : Asc gs) (ht : ∀ f ∈ gs, hasT ts f) {f : Fact} (hf : f ∈ gs) : ∃ b ∈ blocksG ts gs, f.1 = b.a ∧ f.2 ∈ b.c ∧ placeF ts f = (b.a, b.b) := by
  have h : f ∈ allF (blocksG ts gs) := by rw [blocks_all ga ht]; exact hf
  obtain ⟨b, hb, e1, e2⟩ := mem_allF.mp h
  refine ⟨b, hb, e1, e2, ?_⟩
  have := (blk_place hb e2).1
  rw [show ((b.a, f.2) : Fact) = f from by rw [← e1]] at this
  exact this
theorem blk_mem (ga : Asc gs) (ht : ∀ f ∈ gs, hasT ts f) {b : Block} (hb : b ∈ blocksG ts gs) {f : Fact} (hf : f ∈ gs) (e : placeF ts f = (b.a, b.b)) : f.1 = b.a ∧ f.2 ∈ b.c := by
  obtain ⟨c, hc, e1, e2, e3⟩ := blk_of ga ht hf
  have : c = b := blk_same ga ht hc hb (e3.symm.trans e)
  subst this
  exact ⟨e1, e2⟩
theorem mend_set (ga : Asc gs) (ht : ∀ f ∈ gs, hasT ts f) {ms : List Fact} (em : Each MP (blocksG ts gs) ms) : MendS ts (· ∈ gs) (· ∈ ms) where
  sub := mend_sub em
  cov := fun f hf => by
    obtain ⟨b, hb, _, _, e3⟩ := blk_of ga ht hf
    obtain ⟨k, hk, e⟩ := List.getElem_of_mem hb
    have hk2 : k < ms.length := by rw [← em.len]; exact hk
    refine ⟨ms[k], List.getElem_mem hk2, ?_⟩
    rw [(mend_place em hk hk2).1, e3, e]
  one := fun m k hm hk e => by
    obtain ⟨i, hi, e1⟩ := List.getElem_of_mem hm
    obtain ⟨j, hj, e2⟩ := List.getElem_of_mem hk
    have hi2 : i < (blocksG ts gs).length := by rw [em.len]; exact hi
    have hj2 : j < (blocksG ts gs).length := by rw [em.len]; exact hj
    have h1 := (mend_place em hi2 hi).1
    have h2 := (mend_place em hj2 hj).1
    have : i = j := place_inj ga ht hi2 hj2 (by rw [← h1, ← h2, e1, e2]; exact e)
    subst this
    exact e1.symm.trans e2
theorem set_mend (ga : Asc gs) (ht : ∀ f ∈ gs, hasT ts f) {S : Fact → Prop} (h : MendS ts (· ∈ gs) S) : ∃ ms, Each MP (blocksG ts gs) ms ∧ ∀ f, f ∈ ms ↔ S f := by
  have ex : ∀ b ∈ blocksG ts gs, ∃ m, S m ∧ m.1 = b.a ∧ m.2 ∈ b.c ∧ placeF ts m = (b.a, b.b) := fun b hb => by
    obtain ⟨r, hr⟩ := List.exists_mem_of_ne_nil _ (blocks_ne ts gs b hb)
    obtain ⟨e1, e2⟩ := blk_place hb hr
    obtain ⟨m, hm, e⟩ := h.cov _ e2
    rw [e1] at e
    obtain ⟨q1, q2⟩ := blk_mem ga ht hb (h.sub m hm) e
    exact ⟨m, hm, q1, q2, e⟩
  classical
  let f : Block → Fact := fun b => if hb : b ∈ blocksG ts gs then (ex b hb).choose else (b.a, [])
  have hf : ∀ b (hb : b ∈ blocksG ts gs), S (f b) ∧ (f b).1 = b.a ∧ (f b).2 ∈ b.c ∧ placeF ts (f b) = (b.a, b.b) := fun b hb => by
    show S (if hb : b ∈ blocksG ts gs then (ex b hb).choose else (b.a, [])) ∧ _
    simp only [f, dif_pos hb]
    exact (ex b hb).choose_spec
  refine ⟨(blocksG ts gs).map f, Each.ofMap fun b hb => ⟨(hf b hb).2.1, (hf b hb).2.2.1⟩, fun k => ⟨fun hk => ?_, fun hk => ?_⟩⟩
  · obtain ⟨b, hb, rfl⟩ := List.mem_map.mp hk
    exact (hf b hb).1
  · obtain ⟨b, hb, _, _, e3⟩ := blk_of ga ht (h.sub k hk)
    have := h.one k (f b) hk (hf b hb).1 (by rw [e3, (hf b hb).2.2.2])
    rw [this]
    exact List.mem_map.mpr ⟨b, hb, rfl⟩
theorem sure_set (ga : Asc gs) (ht : ∀ f ∈ gs, hasT ts f) {js : List Join} {row : VRow} : Sure ts gs js row ↔ ∀ S, MendS ts (· ∈ gs) S → AnsS S js row := by
  constructor
  · intro h S hS
    obtain ⟨ms, em, e⟩ := set_mend ga ht hS
    exact AnsS.mono (fun f hf => (e f).mp hf) (h ms em)
  · intro h ms em
    exact h _ (mend_set ga ht em)
/-- a fact more at a place that is there -/
theorem sure_more (ga : Asc gs) (ht : ∀ f ∈ gs, hasT ts f) {g2 : List Fact} (a2 : Asc g2) (t2 : ∀ f ∈ g2, hasT ts f) {f : Fact} (e : ∀ k, k ∈ g2 ↔ k ∈ gs ∨ k = f) {js : List Join} {row : VRow} :
    (placeF ts f ∈ gs.map (placeF ts) → Sure ts g2 js row → Sure ts gs js row) ∧ (placeF ts f ∉ gs.map (placeF ts) → Sure ts gs js row → Sure ts g2 js row) := by
  constructor
  · intro hp h
    refine (sure_set ga ht).mpr fun S hS => (sure_set a2 t2).mp h S ⟨fun k hk => (e k).mpr (.inl (hS.sub k hk)), fun k hk => ?_, hS.one⟩
    rcases (e k).mp hk with z | z
    · exact hS.cov k z
    · obtain ⟨g, hg, eg⟩ := List.mem_map.mp hp
      rw [z, ← eg]
      exact hS.cov g hg
  · intro hp h
    refine (sure_set a2 t2).mpr fun S hS => ?_
    have nf : ∀ g ∈ gs, placeF ts f ≠ placeF ts g := fun g hg z => hp (List.mem_map.mpr ⟨g, hg, z.symm⟩)
    refine AnsS.mono (S := fun k => S k ∧ k ≠ f) (fun k hk => hk.1) ((sure_set ga ht).mp h _ ⟨fun k hk => ((e k).mp (hS.sub k hk.1)).elim id fun z => absurd z hk.2, fun k hk => ?_, fun m k hm hk => hS.one m k hm.1 hk.1⟩)
    obtain ⟨m, hm, em⟩ := hS.cov k ((e k).mpr (.inl hk))
    exact ⟨m, ⟨hm, fun z => nf k hk (by rw [← z]; exact em)⟩, em⟩
/-- the same store -/
theorem sure_same (ga : Asc gs) (ht : ∀ f ∈ gs, hasT ts f) {g2 : List Fact} (a2 : Asc g2) (e : ∀ k, k ∈ g2 ↔ k ∈ gs) : g2 = gs := asc_unique a2 ga e
/-- a store that is its own only mending -/
theorem sure_clean {ms : List Fact} (ga : Asc ms) (ht : ∀ f ∈ ms, hasT ts f) (one : ∀ m k, m ∈ ms → k ∈ ms → placeF ts m = placeF ts k → m = k) {js : List Join} {row : VRow} : Sure ts ms js row ↔ Ans ms js row := by
  rw [sure_set ga ht]
  constructor
  · exact fun h => h _ ⟨fun _ h => h, fun f hf => ⟨f, hf, rfl⟩, one⟩
  · intro h S hS
    refine AnsS.mono (fun f hf => ?_) h
    obtain ⟨m, hm, e⟩ := hS.cov f hf
    rw [← one m f (hS.sub m hm) hf e]; exact hm
end
end DL

/-! DL44: variables renamed. -/
namespace DL
open PySem PySem.Spec PyProof.Rows L2
def rnT (f : Str → Str) : Term → Term
  | .var x => .var (f x)
  | .val v => .val v
/-- the row answers by the join -/
def AnsJ (S : Fact → Prop) (j : Join) (row : VRow) : Prop := ∃ v : Str → Val, (∀ a ∈ j.2, S (a.1, a.2.map (ev v))) ∧ j.1.map (ev v) = row
theorem ansS_iff {S : Fact → Prop} {js : List Join} {row : VRow} : AnsS S js row ↔ ∃ j ∈ js, AnsJ S j row := Iff.rfl
/-- k is j with its variables renamed, its atoms in any order -/
structure Like (f : Str → Str) (j k : Join) : Prop where
  inj : ∀ x ∈ varsF j.2, ∀ y ∈ varsF j.2, f x = f y → x = y
  hd : k.1 = j.1.map (rnT f)
  bd : ∀ b, b ∈ k.2 ↔ ∃ a ∈ j.2, b = (a.1, a.2.map (rnT f))
theorem mem_varsF {body : List Atom} {x : Str} : x ∈ varsF body ↔ ∃ a ∈ body, .var x ∈ a.2 := by
  unfold varsF varsT
  rw [List.mem_flatMap]
  constructor
  · rintro ⟨a, ha, h⟩
    obtain ⟨t, ht, e⟩ := List.mem_filterMap.mp h
    cases t with
    | var y => cases e; exact ⟨a, ha, ht⟩
    | val v => cases e
  · rintro ⟨a, ha, h⟩
    exact ⟨a, ha, List.mem_filterMap.mpr ⟨_, h, rfl⟩⟩
theorem ev_rn {f : Str → Str} {v w : Str → Val} {us : List Term} (h : ∀ x, .var x ∈ us → v (f x) = w x) : (us.map (rnT f)).map (ev v) = us.map (ev w) := by
  rw [List.map_map]
  refine List.map_congr_left fun t ht => ?_
  cases t with
  | var x => exact h x ht
  | val u => rfl
theorem Like.ans {f : Str → Str} {j k : Join} {S : Fact → Prop} {row : VRow} (h : Like f j k) (ho : HeadOk j.1 j.2) : AnsJ S k row ↔ AnsJ S j row := by
  constructor
  · rintro ⟨v, hs, e⟩
    refine ⟨fun x => v (f x), fun a ha => ?_, ?_⟩
    · have := hs _ ((h.bd _).mpr ⟨a, ha, rfl⟩)
      rw [ev_rn fun x _ => rfl] at this
      exact this
    · rw [← e, h.hd, ev_rn fun x _ => rfl]
  · rintro ⟨w, hs, e⟩
    classical
    let v : Str → Val := fun y => if hy : ∃ x ∈ varsF j.2, f x = y then w hy.choose else .i 0
    have hv : ∀ x ∈ varsF j.2, v (f x) = w x := fun x hx => by
      have ex : ∃ z ∈ varsF j.2, f z = f x := ⟨x, hx, rfl⟩
      show (if hy : ∃ z ∈ varsF j.2, f z = f x then w hy.choose else .i 0) = w x
      rw [dif_pos ex]
      have := ex.choose_spec
      rw [h.inj _ this.1 _ hx this.2]
    refine ⟨v, fun b hb => ?_, ?_⟩
    · obtain ⟨a, ha, rfl⟩ := (h.bd b).mp hb
      have := hs a ha
      show S (a.1, (a.2.map (rnT f)).map (ev v))
      rw [ev_rn (w := w) fun x hx => hv x (mem_varsF.mpr ⟨a, ha, hx⟩)]
      exact this
    · rw [h.hd, ev_rn (w := w) fun x hx => hv x (ho x hx)]
      exact e
theorem Like.head {f : Str → Str} {j k : Join} (h : Like f j k) (ho : HeadOk j.1 j.2) : HeadOk k.1 k.2 := fun y hy => by
  rw [h.hd] at hy
  obtain ⟨t, ht, e⟩ := List.mem_map.mp hy
  cases t with
  | val v => cases e
  | var x =>
    cases e
    obtain ⟨a, ha, hx⟩ := mem_varsF.mp (ho x ht)
    exact mem_varsF.mpr ⟨_, (h.bd _).mpr ⟨a, ha, rfl⟩, List.mem_map.mpr ⟨_, hx, rfl⟩⟩
theorem Like.vars {f : Str → Str} {j k : Join} {ns : List Str} (h : Like f j k) (hn : ∀ x ∈ varsF j.2, f x ∈ ns) : ∀ y ∈ varsF k.2, y ∈ ns := fun y hy => by
  obtain ⟨b, hb, hm⟩ := mem_varsF.mp hy
  obtain ⟨a, ha, rfl⟩ := (h.bd b).mp hb
  obtain ⟨t, ht, e⟩ := List.mem_map.mp hm
  cases t with
  | val v => cases e
  | var x => cases e; exact hn x (mem_varsF.mpr ⟨a, ha, ht⟩)
theorem Like.fit {f : Str → Str} {j k : Join} {store : List Fact} (h : Like f j k) (sf : StoreFit store j.2) (t8 : ∀ a ∈ j.2, a.2.length ≤ 8) (k100 : k.2.length ≤ 100) (many : szF store ^ k.2.length ≤ 10000000) : StoreFit store k.2 where
  rows := fun b hb r hr => by
    obtain ⟨a, ha, rfl⟩ := (h.bd b).mp hb
    rw [List.length_map]
    exact sf.rows a ha r hr
  wide := by
    have := termsOf_len (n := 8) (body := k.2) fun b hb => by
      obtain ⟨a, ha, rfl⟩ := (h.bd b).mp hb
      rw [List.length_map]; exact t8 a ha
    omega
  few := sf.few
  nd := sf.nd
  many := many
/-- a name by the pairs -/
def namF (ps : List (Term × Term)) (t : Term) : Term := match ps.find? fun p => decide (p.1 = t) with
  | some p => p.2
  | none => t
theorem namF_head (ps : List (Term × Term)) (t : Term) : ∃ r, ((ps.filter fun p => decide (p.1 = t)).map (·.2) ++ [t]) = namF ps t :: r := by
  unfold namF
  rw [← List.head?_filter]
  cases e : ps.filter fun p => decide (p.1 = t) with
  | nil => exact ⟨[], rfl⟩
  | cons p r => exact ⟨r.map (·.2) ++ [t], rfl⟩
/-- pairs of variables -/
def prs (V N : List Str) : List (Term × Term) := (V.zip N).map fun p => (.var p.1, .var p.2)
def renF (V N : List Str) (x : Str) : Str := (lookT (V.zip N) x).getD x
theorem namF_prs (V N : List Str) (t : Term) : namF (prs V N) t = rnT (renF V N) t := by
  unfold namF prs
  rw [List.find?_map]
  cases t with
  | val v =>
    have : (V.zip N).find? ((fun p : Term × Term => decide (p.1 = Term.val v)) ∘ fun p : Str × Str => (Term.var p.1, Term.var p.2)) = none := List.find?_eq_none.mpr fun p _ => by simp
    rw [this]; rfl
  | var x =>
    have key : ∀ zs : List (Str × Str), zs.find? ((fun p : Term × Term => decide (p.1 = Term.var x)) ∘ fun p : Str × Str => (Term.var p.1, Term.var p.2)) = (lookT zs x).map fun n => (x, n) := fun zs => by
      induction zs with
      | nil => rfl
      | cons p zs ih =>
        by_cases e : p.1 = x
        · rw [List.find?_cons_of_pos (by simpa using e), lookT, if_pos e]
          show some p = some (x, p.2)
          rw [← e]
        · rw [List.find?_cons_of_neg (by simpa using e), lookT, if_neg e, ih]
    rw [key]
    cases e : lookT (V.zip N) x with
    | none => show Term.var x = Term.var (renF V N x); rw [renF, e]; rfl
    | some n => show Term.var n = Term.var (renF V N x); rw [renF, e]; rfl
theorem zip_look : ∀ {V N : List Str} {x : Str}, V.length ≤ N.length → x ∈ V → ∃ (i : Nat) (h1 : i < V.length) (h2 : i < N.length), V[i] = x ∧ lookT (V.zip N) x = some N[i]
  | v :: V, n :: N, x, hl, hx => by
    rw [List.zip_cons_cons, lookT]
    by_cases e : v = x
    · exact ⟨0, by simp, by simp, e, by rw [if_pos e]; rfl⟩
    · rw [if_neg e]
      obtain ⟨i, h1, h2, e1, e2⟩ := zip_look (N := N) (x := x) (by simpa using hl) ((List.mem_cons.mp hx).elim (fun z => absurd z.symm e) id)
      exact ⟨i + 1, by simp; omega, by simp; omega, by simpa using e1, by simpa using e2⟩
  | [], _, _, _, hx => by cases hx
  | _ :: _, [], _, hl, _ => by simp at hl
theorem renF_ok {V N : List Str} (hl : V.length ≤ N.length) (nd : N.Nodup) : (∀ x ∈ V, renF V N x ∈ N) ∧ ∀ x ∈ V, ∀ y ∈ V, renF V N x = renF V N y → x = y := by
  constructor
  · intro x hx
    obtain ⟨i, h1, h2, e1, e2⟩ := zip_look hl hx
    rw [renF, e2]; exact List.getElem_mem h2
  · intro x hx y hy e
    obtain ⟨i, h1, h2, e1, e2⟩ := zip_look hl hx
    obtain ⟨j, g1, g2, e3, e4⟩ := zip_look hl hy
    rw [renF, renF, e2, e4] at e
    have : i = j := by
      have := congrArg (fun z => ixF z N) e
      rw [Option.getD_some, Option.getD_some] at this
      rw [← ixF_at nd h2, ← ixF_at nd g2]; exact this
    subst this
    rw [← e1, ← e3]
open Classical in
/-- is the closed question sure? -/
noncomputable def sureB (ts : List Tb) (gs : List Fact) (js : List Join) : Bool := decide (Sure ts gs js [])
open Classical in
theorem sureB_iff {ts : List Tb} {gs : List Fact} {js : List Join} : sureB ts gs js = true ↔ Sure ts gs js [] := by unfold sureB; rw [decide_eq_true_eq]
/-- two bodies with variables apart -/
theorem sat_apart {S : Fact → Prop} {b c : List Atom} (ap : ∀ x ∈ varsF b, x ∉ varsF c) : AnsJ S (([], b ++ c) : Join) [] ↔ AnsJ S (([], b) : Join) [] ∧ AnsJ S (([], c) : Join) [] := by
  constructor
  · rintro ⟨v, hs, e⟩
    exact ⟨⟨v, fun a ha => hs a (List.mem_append_left _ ha), rfl⟩, ⟨v, fun a ha => hs a (List.mem_append_right _ ha), rfl⟩⟩
  · rintro ⟨⟨v, hv, _⟩, ⟨w, hw, _⟩⟩
    classical
    refine ⟨fun x => if x ∈ varsF b then v x else w x, fun a ha => ?_, rfl⟩
    have cong : ∀ {u : Str → Val}, (∀ x, .var x ∈ a.2 → (if x ∈ varsF b then v x else w x) = u x) → a.2.map (ev fun x => if x ∈ varsF b then v x else w x) = a.2.map (ev u) := fun h => List.map_congr_left fun t ht => by
      cases t with
      | val _ => rfl
      | var x => exact h x ht
    rcases List.mem_append.mp ha with z | z
    · rw [cong fun x hx => if_pos (mem_varsF.mpr ⟨a, z, hx⟩)]
      exact hv a z
    · rw [cong fun x hx => if_neg fun q => ap x q (mem_varsF.mpr ⟨a, z, hx⟩)]
      exact hw a z
theorem sure_and {ts : List Tb} {gs : List Fact} {b c : List Atom} (ap : ∀ x ∈ varsF b, x ∉ varsF c) : Sure ts gs [(([], b ++ c) : Join)] [] ↔ Sure ts gs [(([], b) : Join)] [] ∧ Sure ts gs [(([], c) : Join)] [] := by
  have one : ∀ {ms : List Fact} {j : Join}, Ans ms [j] [] ↔ AnsJ (· ∈ ms) j [] := fun {ms j} => by
    rw [ans_set, ansS_iff]
    exact ⟨fun ⟨k, hk, h⟩ => by rw [List.mem_singleton.mp hk] at h; exact h, fun h => ⟨j, List.mem_singleton.mpr rfl, h⟩⟩
  constructor
  · intro h
    exact ⟨fun ms em => one.mpr ((sat_apart ap).mp (one.mp (h ms em))).1, fun ms em => one.mpr ((sat_apart ap).mp (one.mp (h ms em))).2⟩
  · rintro ⟨h1, h2⟩ ms em
    exact one.mpr ((sat_apart ap).mpr ⟨one.mp (h1 ms em), one.mp (h2 ms em)⟩)
theorem sure_or {ts : List Tb} {gs : List Fact} {j k : Join} {row : VRow} (h : Sure ts gs [j] row ∨ Sure ts gs [k] row) : Sure ts gs [j, k] row := by
  intro ms em
  rcases h with h | h
  · obtain ⟨i, hi, r⟩ := h ms em
    exact ⟨i, by rw [List.mem_singleton.mp hi]; simp, r⟩
  · obtain ⟨i, hi, r⟩ := h ms em
    exact ⟨i, by rw [List.mem_singleton.mp hi]; simp, r⟩
/-- questions that answer alike -/
theorem sure_like {ts : List Tb} {gs : List Fact} {js ks : List Join} {row : VRow} (h1 : ∀ k ∈ ks, ∃ j ∈ js, HeadOk j.1 j.2 ∧ ∃ f, Like f j k) (h2 : ∀ j ∈ js, HeadOk j.1 j.2 ∧ ∃ k ∈ ks, ∃ f, Like f j k) : Sure ts gs ks row ↔ Sure ts gs js row := by
  constructor
  · intro h ms em
    obtain ⟨k, hk, r⟩ := ansS_iff.mp (h ms em)
    obtain ⟨j, hj, ho, f, l⟩ := h1 k hk
    exact ansS_iff.mpr ⟨j, hj, (l.ans ho).mp r⟩
  · intro h ms em
    obtain ⟨j, hj, r⟩ := ansS_iff.mp (h ms em)
    obtain ⟨ho, k, hk, f, l⟩ := h2 j hj
    exact ansS_iff.mpr ⟨k, hk, (l.ans ho).mpr r⟩
theorem prs_len {V N : List Str} (h : V.length ≤ N.length) : (prs V N).length = V.length := by
  unfold prs
  rw [List.length_map, List.length_zip]; omega
theorem prs_at {V N : List Str} {i : Nat} (h1 : i < V.length) (h2 : i < N.length) (d : Term × Term) : (prs V N).getD i d = (.var V[i], .var N[i]) := by
  unfold prs
  rw [List.getD_eq_getElem?_getD, List.getElem?_map, List.getElem?_eq_getElem (by rw [List.length_zip]; omega), List.getElem_zip]; rfl
end DL

/-! DL45: sorted(set(xs)) of ints. -/
namespace DL
open PySem PySem.Spec PyProof.Rows L2
theorem IntsAre.atGet {vs : List Value} {ns : List Int} (h : IntsAre vs ns) : ∀ (i : Nat) (v : Value), vs[i]? = some v → ∃ t, v = .int (ns.getD i 0) t := by
  induction h with
  | nil => intro i v e; simp at e
  | cons k t _ ih =>
    intro i v e
    cases i with
    | zero => exact ⟨t, by simpa using e.symm⟩
    | succ i => exact ih i v (by simpa using e)
section
variable {P : Program} {w : World} {A : Around} {E : Value → Shared → Prop} {s : Shared}
set_option maxHeartbeats 3200000 in
theorem call_set_intsL {l : Addr} {items : Array Value} (ns : List Int) {Q : Value → Shared → Prop} (hh : A.handled = none) (hl : s.heap.IsList l items) (hi : IntsAre items.toList ns) (hb : ns.length + 1 < scanBound)
    (h : ∀ (h' : Heap) (tk c : Nat), SetR w h' s.heap.objs.size (fun j => decide (j ∈ ns)) c → c ≤ ns.length → (∀ b o, s.heap.get? b = some o → h'.get? b = some o) → Q (.ref s.heap.objs.size) { s with heap := h', toks := tk }) :
    wpAny (model P w) A (call (.type "set") [.ref l]) Q E s := by
  have hisz : items.size = ns.length := by have q := IntsAre.length hi; rw [Array.length_toList] at q; exact q
  obtain ⟨c, tl, hmro⟩ := F.called_set.mro
  have hmade := F.called_set.made
  have hsub := F.called_set.sub
  refine wpAny_call (codeAny_of_tree ?_)
  show wpAny _ _ (callAny (.type "set") _) _ _ _
  refine wpAny_pure ⟨Code.quiet_builtin _ (by decide +kernel), codeAny_builtin F.entry_type_call ?_⟩
  rw [Around.under_plain (weight_type_call_type "set" [.ref l] []) rfl]
  have h1 := F.called_set.notType
  have h2 := F.called_set.canCreate
  have hct := F.typeCall_set_1 (.ref l)
  repeat (any_goals (first | assumption | wp_step))

  refine codeAny_mono (code_set_led1 (.ref l) (E := E) (Q₁ := fun obj s₁ => obj = .ref s.heap.objs.size ∧ s₁ = { s with heap := s.heap.push { cls := .type "set", dict := none, data := .set #[] 0 (.fresh 0 0 (!w.params.followText "set-order")) } }) ⟨rfl, rfl⟩) fun r s₁ hr => ?_
  cases r with
  | error e => exact hr
  | ok fl =>
    cases fl with
    | ret obj =>
      obtain ⟨rfl, rfl⟩ := hr
      have hS : (s.heap.push { cls := .type "set", dict := none, data := .set #[] 0 (.fresh 0 0 (!w.params.followText "set-order")) }).get? s.heap.objs.size = some { cls := .type "set", dict := none, data := .set #[] 0 (.fresh 0 0 (!w.params.followText "set-order")) } := Heap.get?_push_size _ rfl
      have hT : Shared.TypeIs { s with heap := s.heap.push { cls := .type "set", dict := none, data := .set #[] 0 (.fresh 0 0 (!w.params.followText "set-order")) } } (.ref s.heap.objs.size) "set" := ⟨_, hS, rfl⟩
      have hli := F.called_set.init.lookup
      have hbi := F.called_set.init.bind (.ref s.heap.objs.size)
      repeat (any_goals (first | assumption | wp_step))

      refine codeAny_mono (codeAny_call_builtin (R := wants (fun r s₂ => r = .none ∧ ∃ h' tk c, s₂ = { s with heap := h', toks := tk } ∧ SetR w h' s.heap.objs.size (fun j => decide (j ∈ ns)) c ∧ c ≤ ns.length ∧
          (∀ b o, s.heap.get? b = some o → h'.get? b = some o)) E) F.called_set.init.plain F.entry_set_init (check_set_init_1 hT ?_)) fun r₂ s₂ hr₂ => ?_
      · obtain ⟨ol, hol, hcl, nl, hdl⟩ := hl
        obtain ⟨ocls, odict, odata, oslots⟩ := ol
        simp only at hcl hdl
        subst hcl; subst hdl
        have hol' : (s.heap.push { cls := .type "set", dict := none, data := .set #[] 0 (.fresh 0 0 (!w.params.followText "set-order")) }).get? l = some { cls := .type "list", dict := odict, data := .seq items nl, slots := oslots } := Heap.get?_push_of_some _ hol
        have hsls := F.sub_list_set
        have hslf := F.sub_list_frozenset
        have hne : (Value.type "list" == Value.type "dict") = false := by decide
        have hl1 : (s.heap.push { cls := .type "set", dict := none, data := .set #[] 0 (.fresh 0 0 (!w.params.followText "set-order")) }).IsList l items := ⟨_, hol', rfl, nl, rfl⟩
        unfold Builtin.«set.__init__» noKeywords Builtin.Frozenset.updateFrom
        generalize hPI : pyIter = PI
        wp_walk
        subst hPI

        refine wpAny_pyIter_list hl1 ?_
        refine wpAny_bind (wpAny_runValue ?_)
        have hlS : l < s.heap.objs.size := Heap.lt_size hol
        have hh3 : A.in1.in1.in1.handled = none := by simp [hh]
        have hneI : l ≠ (s.heap.push { cls := .type "set", dict := none, data := .set #[] 0 (.fresh 0 0 (!w.params.followText "set-order")) }).objs.size := by
          rw [Heap.size_push]; exact Nat.ne_of_lt (Nat.lt_succ_of_lt hlS)
        have hSf : s.heap.objs.size ∉ [(s.heap.push { cls := .type "set", dict := none, data := .set #[] 0 (.fresh 0 0 (!w.params.followText "set-order")) }).objs.size, l] := by
          rw [Heap.size_push]; simp only [List.mem_cons, List.mem_singleton, List.not_mem_nil, or_false, not_or]
          exact ⟨Nat.ne_of_lt (Nat.lt_succ_self _), Nat.ne_of_gt hlS⟩
        have hval : ∀ (i : Nat) (v : Value), items[i]? = some v → ∃ k t, ns[i]? = some k ∧ v = .int k t := fun i v hv => by
          have hi2 : i < ns.length := by rw [← hisz]; exact (Array.getElem?_eq_some_iff.mp hv).1
          obtain ⟨t, e⟩ := IntsAre.atGet hi i v (by rw [Array.getElem?_toList]; exact hv)
          exact ⟨ns[i], t, List.getElem?_eq_getElem hi2, by rw [e, List.getD_eq_getElem?_getD, List.getElem?_eq_getElem hi2]; rfl⟩
        refine set_update_ints ((Walks.list hh3 _ l hneI items).toS) s.heap.objs.size
          hSf ns hisz hb hval (items.size - 0) 0 _ (by omega) (Nat.zero_le _)
          ⟨⟨_, Heap.get?_push_size _ rfl, rfl, rfl⟩, (hl1.push _)⟩ ?hS0 ?hR
        case hS0 =>
          have hget := Heap.get?_push_of_some { cls := .type "list_iterator", data := .fields #[.ref l, .int 0 0] } hS
          exact ⟨0, Nat.le_refl 0, setR_new_at hget⟩
        case hR =>
          intro s' c2 hm hc2 hS'
          obtain ⟨h', g2, d', tk', os'⟩ := s'
          have eg : g2 = s.gens := hm.gens
          have ed : d' = s.drawn := hm.drawn
          have eo : os' = s.os := hm.os
          subst eg; subst ed; subst eo
          show wpAny _ _ _ _ _ _
          refine wpAny_pure ?_
          show wpAny _ _ (ret Value.none) _ _ _
          refine wpAny_pure ⟨rfl, h', tk', c2, rfl, hS', by omega, fun b o e => ?_⟩
          have hb0 : b < s.heap.objs.size := Heap.lt_size e
          have hb1 : b ≠ s.heap.objs.size := Nat.ne_of_lt hb0
          have hb2 : b ≠ (s.heap.push { cls := .type "set", dict := none, data := .set #[] 0 (.fresh 0 0 (!w.params.followText "set-order")) }).objs.size := by
            rw [Heap.size_push]; exact Nat.ne_of_lt (Nat.lt_succ_of_lt hb0)
          exact hm.heap b o (by simp only [List.mem_cons, List.mem_singleton, List.not_mem_nil, or_false, not_or]; exact ⟨hb1, hb2⟩) (Heap.get?_push_of_some _ (Heap.get?_push_of_some _ e))

      · cases r₂ with
        | error e => exact hr₂
        | ok fl₂ =>
          cases fl₂ with
          | ret r =>
            obtain ⟨rfl, h', tk, c2, rfl, hS', hc2, hk'⟩ := hr₂
            repeat (any_goals (first | assumption | wp_step))
            exact h _ _ _ hS' hc2 hk'
          | _ => exact hr₂.elim
    | _ => exact hr.elim
end
theorem pw_asc : ∀ {ns : List Int}, ns.Pairwise (· < ·) → Asc ns := fun h => h.imp fun q => by show decide _ = true; exact decide_eq_true q
section
variable {X : Cx}
def SetIO (w : World) (a : Addr) (ns : List Int) : HO := .ext fun h => ∃ c, c ≤ ns.length ∧ SetR w h a (fun j => decide (j ∈ ns)) c
theorem setIO_new {w : World} {P : Program} {H : Hp} {h : Heap} {a : Addr} {ns : List Int} {c : Nat} (hc : c ≤ ns.length) (R : SetR w h a (fun j => decide (j ∈ ns)) c) : ObjOk P w H h a (SetIO w a ns) := by
  have ⟨o, _, _, _, ho, _⟩ := R
  exact ⟨⟨c, hc, R⟩, ⟨o, ho⟩, fun h1 h2 p z => let ⟨c, hc, k⟩ := p; ⟨c, hc, SetR.at k z⟩⟩
theorem setIO_get {pins : List (Addr × Obj)} {σ : L2.St} {H : Hp} {s : Shared} {a : Addr} {ns : List Int} (I : Inv X pins σ H s) (ha : H a = some (SetIO X.w a ns)) : ∃ c, c ≤ ns.length ∧ SetR X.w s.heap a (fun j => decide (j ∈ ns)) c := (I.hok a _ ha).1
def rSetI (K : KW) : List V → Hp → VK → Prop := fun vs H Q => ∃ (p : Addr) (ns : List Int), vs = [V.ref p] ∧ SqL K.1 H p (ns.map V.int) ∧ ns.length < 64 ∧ ∀ a, H a = none → Q (.ref a) (upd H a (SetIO K.2 a ns))
theorem cr_setI (hc : X.calm = true) : CallR X (.type "set") (rSetI (kw X)) := by
  intro pins s σ H vs us Q I r h
  obtain ⟨p, ns, rfl, hs, hl, q⟩ := h
  obtain ⟨its, rv, hli, _⟩ := I.list hs
  rw [Vals.ref1 r]
  refine call_set_intsL ns (I.ok.hd hc) hli.isList (by simpa using rv.ints) (by unfold scanBound; omega) fun h' tk c hS hcl hk => ?_
  exact ⟨.ref _, upd H s.heap.objs.size (SetIO X.w s.heap.objs.size ns), I.laid (t' := tk) hk (Nat.le_refl _) (setIO_new hcl hS), rfl, q _ (I.hok.fresh (Nat.le_refl _))⟩
def rSortedSetI (w : World) : List V → Hp → VK → Prop := fun vs H Q => ∃ (a : Addr) (ns : List Int), vs = [V.ref a] ∧ H a = some (SetIO w a ns) ∧ ns.length < 64 ∧ ∀ p, H p = none → Q (.ref p) (upd H p (.lst ((setF ns).map V.int)))
theorem cr_sortedSetI (hc : X.calm = true) : CallR X (.builtin "sorted") (rSortedSetI X.w) := by
  intro pins s σ H vs us Q I r h
  obtain ⟨a, ns, rfl, ha, hl, q⟩ := h
  obtain ⟨c, hcl, R⟩ := setIO_get I ha
  rw [Vals.ref1 r]
  refine sorted_set R (I.ok.hd hc) (by omega) fun s' p out cc ks k g o hp hg hi hpw hm hn => ?_
  have e : ks = setF ns := setF_of (pw_asc hpw) fun j => by rw [hm, decide_eq_true_eq]
  subst e
  have fl := setF_len ns
  have hz : ((setF ns).map V.int).length ≤ sizeLine := by rw [List.length_map, sizeLine_eq]; omega
  have hf : H p = none := I.hok.fresh hp
  have J : Inv X pins σ (upd H p (.lst ((setF ns).map V.int))) { s with heap := s'.heap, gens := s'.gens, drawn := s'.drawn, toks := s'.toks } :=
    I.call (ch := []) (Un.laid k hp hf) (I.hok.laid k hp ⟨hz, out.toList, cc, vals_of_ints hi, hg⟩) (by rw [g]; exact I.bare) (fun _ z => nomatch z)
  have e : s' = { s with heap := s'.heap, gens := s'.gens, drawn := s'.drawn, toks := s'.toks } := by
    cases s'; cases s; cases o; rfl
  rw [e]
  exact ⟨.ref p, _, J, rfl, q p hf⟩
end
section
variable {K : KW} {G H : Hp} {X : Cx} {Z : Wish} {p p2 pos pos2 : Pos} {e : Expr} {u : TAd}
def rSortSetI (K : KW) : List V → Hp → VK → Prop := fun vs H Q => rSetI K vs H fun v H1 => rSortedSetI K.2 [v] H1 Q
def gSortSetI (ws : List W) (Q : W → Prop) : Prop := match ws with
  | [w] => ∃ ns : List Int, asL w = some (ns.map .int) ∧ ns.length < 64 ∧ Q (.l ((setF ns).map .int))
  | _ => False
theorem cd_sortSetI : CallD K (rSortSetI K) gSortSetI := by
  intro G0 H0 Hx G H σ ρ vs ws Q' Q E r q k
  unfold gSortSetI at q
  split at q
  · obtain ⟨v, rfl, r1⟩ := r.one
    obtain ⟨ns, e1, l, q⟩ := q
    obtain ⟨p, us, rfl, h1, z, a⟩ := r1.asL E e1
    rw [a.ints] at h1
    refine ⟨p, ns, rfl, h1, l, fun b hb => ⟨b, ns, rfl, upd_same, l, fun c hc => ?_⟩⟩
    have u1 : Up G H G (upd H b (SetIO K.2 b ns)) := Up.newH E.gh hb
    have u2 := u1.trans (Up.newH (o := .lst ((setF ns).map V.int)) (E.to u1).gh hc)
    have cn : H c = none := u1.h.back hc
    refine k _ (.l ((setF ns).map .int)) _ _ u2 ⟨c, (setF ns).map V.int, rfl, cn, E.gh.back cn, trivial, upd_same, ?_, IsAll.ofInts _⟩ q
    have := setF_len ns
    rw [List.length_map, sizeLine_eq]; omega
  · exact q.elim
theorem d_sortSetI (hc : X.calm = true) (m1 : X.mg "sorted" = none) (m2 : X.mg "set" = none) (ha : PDA X Z [e] u)
    (g1 : Gl X "sorted" := by rfl) (g2 : Gl X "set" := by rfl) (v1 : bootBuiltins "sorted" = some (.builtin "sorted") := by decide +kernel) (v2 : bootBuiltins "set" = some (.type "set") := by decide +kernel)
    (he : starEach [e] X.env = (false, eval e X.env) :: starEach [] X.env := by rfl) (hpl : (backTo pos2 (starEach [] X.env)).any (·.1) = false := by rfl)
    (he2 : starEach [Expr.Call (.Name "set" p2) [e] [] pos2] X.env = (false, eval (.Call (.Name "set" p2) [e] [] pos2) X.env) :: starEach [] X.env := by rfl) (hpl2 : (backTo pos (starEach [] X.env)).any (·.1) = false := by rfl) :
    PD X Z (.Call (.Name "sorted" p) [.Call (.Name "set" p2) [e] [] pos2] [] pos) (dCB gSortSetI u) := by
  obtain ⟨ts, pa, sa⟩ := ha
  have pe := pe_callB (x := "sorted") (p := p) (pos := pos) (cr_sortedSetI hc) g1 m1 v1 (pa_cons (pe_callTy (x := "set") (p := p2) (pos := pos2) (cr_setI hc) g2 m2 v2 pa (by decide) (by decide) he hpl) pa_nil he2) (by decide) (by decide) he2 hpl2
  have e1 : tCB (rSortedSetI X.w) (tCons (tCB (rSetI (kw X)) ts) tNil) = tCB (rSortSetI (kw X)) ts := rfl
  rw [e1] at pe
  exact ⟨_, pe, snd_cb cd_sortSetI sa⟩
end
end DL

/-! DL46: names that grow by rules until nothing is new. -/
namespace DL
open PySem PySem.Spec PyProof.Rows L2
section
variable {α : Type} [SO α] [DecidableEq α]
/-- all of xs are in ys -/
def Sub (xs ys : List α) : Prop := ∀ x ∈ xs, x ∈ ys
theorem Sub.refl (xs : List α) : Sub xs xs := fun _ h => h
theorem Sub.trans {xs ys zs : List α} (h : Sub xs ys) (h2 : Sub ys zs) : Sub xs zs := fun x hx => h2 x (h x hx)
instance (xs ys : List α) : Decidable (Sub xs ys) := inferInstanceAs (Decidable (∀ x ∈ xs, x ∈ ys))
/-- a rule: when it may be used, what it adds -/
structure Rule (α : Type) where
  c : List α → Bool
  a : List α
def stepU (L : List α) (r : Rule α) : List α := if r.c L = true then setF (L ++ r.a) else L
def passU (rs : List (Rule α)) (L : List α) : List α := rs.foldl stepU L
def runU (rs : List (Rule α)) : Nat → List α → List α
  | 0, L => L
  | n + 1, L => passU rs (runU rs n L)
/-- used where it holds also where more is known -/
def MonoR (rs : List (Rule α)) : Prop := ∀ r ∈ rs, ∀ L M, Sub L M → r.c L = true → r.c M = true
def ClosedR (rs : List (Rule α)) (L : List α) : Prop := ∀ r ∈ rs, r.c L = true → Sub r.a L
theorem stepU_grow (L : List α) (r : Rule α) : Sub L (stepU L r) := fun x hx => by
  unfold stepU
  split
  · exact setF_mem.mpr (List.mem_append_left _ hx)
  · exact hx
theorem foldU_grow : ∀ (rs : List (Rule α)) (L : List α), Sub L (rs.foldl stepU L)
  | [], L => Sub.refl L
  | r :: rs, L => (stepU_grow L r).trans (foldU_grow rs _)
theorem runU_grow (rs : List (Rule α)) (L : List α) : ∀ n, Sub L (runU rs n L)
  | 0 => Sub.refl L
  | n + 1 => (runU_grow rs L n).trans (foldU_grow rs _)
theorem stepU_least {L M : List α} {r : Rule α} (h : Sub L M) (mono : ∀ L M, Sub L M → r.c L = true → r.c M = true) (cl : r.c M = true → Sub r.a M) : Sub (stepU L r) M := fun x hx => by
  unfold stepU at hx
  split at hx
  · rename_i e
    rcases List.mem_append.mp (setF_mem.mp hx) with z | z
    · exact h x z
    · exact cl (mono _ _ h e) x z
  · exact h x hx
theorem foldU_least {M : List α} : ∀ {rs : List (Rule α)} {L : List α}, MonoR rs → ClosedR rs M → Sub L M → Sub (rs.foldl stepU L) M
  | [], L, _, _, h => h
  | r :: rs, L, mo, cl, h => foldU_least (rs := rs) (fun q hq => mo q (List.mem_cons_of_mem _ hq)) (fun q hq => cl q (List.mem_cons_of_mem _ hq)) (stepU_least h (mo r List.mem_cons_self) (cl r List.mem_cons_self))
theorem runU_least {rs : List (Rule α)} {L M : List α} (mo : MonoR rs) (cl : ClosedR rs M) (h : Sub L M) : ∀ n, Sub (runU rs n L) M
  | 0 => h
  | n + 1 => foldU_least mo cl (runU_least mo cl h n)
/-- a rule that may be used is used within the pass -/
theorem passU_done {r : Rule α} : ∀ {rs : List (Rule α)} {L : List α}, MonoR rs → r ∈ rs → r.c L = true → Sub r.a (rs.foldl stepU L)
  | q :: rs, L, mo, hr, hc => by
    have mo2 : MonoR rs := fun s hs => mo s (List.mem_cons_of_mem _ hs)
    rcases List.mem_cons.mp hr with e | e
    · subst e
      refine Sub.trans (fun x hx => ?_) (foldU_grow rs _)
      unfold stepU
      rw [if_pos hc]
      exact setF_mem.mpr (List.mem_append_right _ hx)
    · exact passU_done (rs := rs) (L := stepU L q) mo2 e (mo r hr _ _ (stepU_grow L q) hc)
/-- how many rules have nothing to add -/
def doneU (rs : List (Rule α)) (L : List α) : Nat := (rs.filter fun r => decide (Sub r.a L)).length
theorem doneU_le (rs : List (Rule α)) (L : List α) : doneU rs L ≤ rs.length := List.length_filter_le ..
theorem filter_mono {β : Type} {p q : β → Bool} : ∀ {xs : List β}, (∀ x ∈ xs, p x = true → q x = true) → (xs.filter p).length ≤ (xs.filter q).length
  | [], _ => Nat.le_refl _
  | x :: xs, h => by
    have ih := filter_mono (xs := xs) fun y hy => h y (List.mem_cons_of_mem _ hy)
    have h1 := h x List.mem_cons_self
    cases e : p x with
    | true =>
      rw [List.filter_cons_of_pos e, List.filter_cons_of_pos (h1 e), List.length_cons, List.length_cons]; omega
    | false =>
      rw [List.filter_cons_of_neg (by rw [e]; decide)]
      cases e2 : q x with
      | true => rw [List.filter_cons_of_pos e2, List.length_cons]; omega
      | false => rw [List.filter_cons_of_neg (by rw [e2]; decide)]; exact ih
theorem filter_more {β : Type} {p q : β → Bool} {y : β} : ∀ {xs : List β}, (∀ x ∈ xs, p x = true → q x = true) → y ∈ xs → p y = false → q y = true → (xs.filter p).length < (xs.filter q).length
  | x :: xs, h, hy, e1, e2 => by
    have ih := filter_mono (xs := xs) fun y hy => h y (List.mem_cons_of_mem _ hy)
    have h1 := h x List.mem_cons_self
    rcases List.mem_cons.mp hy with z | z
    · subst z
      rw [List.filter_cons_of_neg (by rw [e1]; decide), List.filter_cons_of_pos e2, List.length_cons]; omega
    · have ih := filter_more (xs := xs) (fun y hy => h y (List.mem_cons_of_mem _ hy)) z e1 e2
      cases e : p x with
      | true => rw [List.filter_cons_of_pos e, List.filter_cons_of_pos (h1 e), List.length_cons, List.length_cons]; omega
      | false =>
        rw [List.filter_cons_of_neg (by rw [e]; decide)]
        cases e2 : q x with
        | true => rw [List.filter_cons_of_pos e2, List.length_cons]; omega
        | false => rw [List.filter_cons_of_neg (by rw [e2]; decide)]; exact ih
theorem closedU_stays {rs : List (Rule α)} {L : List α} (mo : MonoR rs) (cl : ClosedR rs L) : ClosedR rs (passU rs L) := by
  have e : Sub (passU rs L) L := foldU_least mo cl (Sub.refl L)
  exact fun r hr hc => (cl r hr (mo r hr _ _ e hc)).trans (foldU_grow rs L)
/-- after as many passes as there are rules nothing is new -/
theorem runU_closed {rs : List (Rule α)} (mo : MonoR rs) (L : List α) : ∀ n, ClosedR rs (runU rs n L) ∨ n ≤ doneU rs (runU rs n L)
  | 0 => .inr (Nat.zero_le _)
  | n + 1 => by
    by_cases cl : ClosedR rs (runU rs n L)
    · exact .inl (closedU_stays mo cl)
    · rcases runU_closed mo L n with c | d
      · exact absurd c cl
      · refine .inr (Nat.lt_of_le_of_lt d ?_)
        obtain ⟨r, hr, hc, hn⟩ : ∃ r ∈ rs, r.c (runU rs n L) = true ∧ ¬ Sub r.a (runU rs n L) := by
          apply Classical.byContradiction
          intro h
          refine cl fun r hr hc => ?_
          apply Classical.byContradiction
          intro h2
          exact h ⟨r, hr, hc, h2⟩
        refine filter_more (y := r) (fun q _ hq => ?_) hr (decide_eq_false hn) (decide_eq_true (passU_done mo hr hc))
        exact decide_eq_true ((of_decide_eq_true hq).trans (foldU_grow rs _))
theorem runU_len {rs : List (Rule α)} (mo : MonoR rs) (L : List α) {n : Nat} (h : rs.length ≤ n) : ClosedR rs (runU rs n L) := by
  have key : ∀ m, ClosedR rs (runU rs (rs.length + m) L) := fun m => by
    induction m with
    | zero =>
      rcases runU_closed mo L rs.length with c | d
      · exact c
      · intro r hr hc
        have e : doneU rs (runU rs rs.length L) = rs.length := Nat.le_antisymm (doneU_le rs _) d
        unfold doneU at e
        have := List.length_filter_eq_length_iff.mp e r hr
        exact of_decide_eq_true this
    | succ m ih => exact closedU_stays mo ih
  have := key (n - rs.length)
  rwa [show rs.length + (n - rs.length) = n from by omega] at this
/-- .. and after as many as there are names -/
theorem runU_names {rs : List (Rule α)} (mo : MonoR rs) {V L : List α} (hv : ∀ r ∈ rs, Sub r.a V) (hl : Sub L V) {n : Nat} (h : V.length ≤ n) : ClosedR rs (runU rs n L) := by
  have sub : ∀ n, Sub (runU rs n L) V := fun n => by
    refine runU_least (M := V) mo (fun r hr _ => hv r hr) hl n
  have key : ∀ n, ClosedR rs (runU rs n L) ∨ n ≤ (V.filter fun x => decide (x ∈ runU rs n L)).length := fun n => by
    induction n with
    | zero => exact .inr (Nat.zero_le _)
    | succ n ih =>
      by_cases cl : ClosedR rs (runU rs n L)
      · exact .inl (closedU_stays mo cl)
      · rcases ih with c | d
        · exact absurd c cl
        · refine .inr (Nat.lt_of_le_of_lt d ?_)
          obtain ⟨r, hr, hc, x, hx, hn⟩ : ∃ r ∈ rs, r.c (runU rs n L) = true ∧ ∃ x ∈ r.a, x ∉ runU rs n L := by
            apply Classical.byContradiction
            intro h
            refine cl fun r hr hc x hx => ?_
            apply Classical.byContradiction
            intro h2
            exact h ⟨r, hr, hc, x, hx, h2⟩
          refine filter_more (y := x) (fun q _ hq => ?_) (hv r hr x hx) (decide_eq_false hn) (decide_eq_true (passU_done mo hr hc x hx))
          exact decide_eq_true (foldU_grow rs _ q (of_decide_eq_true hq))
  have stay : ∀ m k, ClosedR rs (runU rs m L) → ClosedR rs (runU rs (m + k) L) := fun m k c => by
    induction k with
    | zero => exact c
    | succ k ih => exact closedU_stays mo ih
  rcases key V.length with c | d
  · have := stay V.length (n - V.length) c
    rwa [show V.length + (n - V.length) = n from by omega] at this
  · have e : (V.filter fun x => decide (x ∈ runU rs V.length L)).length = V.length := Nat.le_antisymm (List.length_filter_le ..) d
    have all := List.length_filter_eq_length_iff.mp e
    have c : ClosedR rs (runU rs V.length L) := fun r hr _ x hx => of_decide_eq_true (all x (hv r hr x hx))
    have := stay V.length (n - V.length) c
    rwa [show V.length + (n - V.length) = n from by omega] at this
end
end DL

/-! DL47: closures of atoms, attacked names. -/
namespace DL
open PySem PySem.Spec PyProof.Rows L2
instance : Enc Nat := ⟨fun n => .int (n : Int), 0, fun a b => by simp only [PyData.eqv]; rw [Bool.eq_iff_iff]; simp; omega, fun a => by simp [PyData.depth], fun a => noDict_int _, fun _ => rfl⟩
instance : EncN Nat := ⟨fun _ => ⟨_, rfl⟩⟩
instance : EncK Nat := { one := .inr fun _ => rfl }
/-- a list or a tuple of these -/
def LT {α : Type} [DecidableEq α] [Enc α] (x : W) (xs : List α) : Prop := x = .b (xs.map Enc.d) ∨ x = Ed xs
theorem LT.arg {α : Type} [DecidableEq α] [Enc α] {x : W} {xs : List α} (h : LT x xs) : LT (argW (rd x)) xs := by
  rcases h with rfl | rfl
  · exact .inl rfl
  · exact .inr rfl
theorem ltT {α : Type} [DecidableEq α] [Enc α] {xs : List α} : LT (Ed xs) xs := .inr rfl
theorem ltB {α : Type} [DecidableEq α] [Enc α] {xs : List α} : LT (.b (xs.map Enc.d)) xs := .inl rfl
theorem memT_d {α : Type} [DecidableEq α] {a : α} {xs : List α} {_ : Decidable (a ∈ xs)} : decide (a ∈ xs) = memT a xs := by
  by_cases h : a ∈ xs
  · rw [memT_yes h]; exact decide_eq_true h
  · rw [memT_no h]; exact decide_eq_false h
/-- the names that are not bound -/
def freeV (us : List Term) (b : List Str) : List Str := (varsT us).filter fun x => !memT x b
theorem freeV_len (us : List Term) (b : List Str) : (freeV us b).length ≤ us.length := Nat.le_trans (List.length_filter_le ..) (varsT_len us)
def freeD (b : List Str) : Term → Option PyData
  | .var y => if memT y b = true then none else some (Enc.d y)
  | .val _ => none
theorem freeD_no {b : List Str} {y : Str} (h : ¬ y ∈ b) : freeD b (.var y) = some (Enc.d y) := by
  show (if memT y b = true then none else some (Enc.d y)) = _
  rw [memT_no h]; rfl
theorem freeD_yes {b : List Str} {y : Str} (h : y ∈ b) : freeD b (.var y) = none := by
  show (if memT y b = true then none else some (Enc.d y)) = _
  rw [memT_yes h]; rfl
theorem freeV_map (us : List Term) (b : List Str) : us.filterMap (freeD b) = (freeV us b).map Enc.d := by
  unfold freeV varsT
  induction us with
  | nil => rfl
  | cons t us ih =>
    cases t with
    | val v => rw [List.filterMap_cons_none (by rfl), List.filterMap_cons_none (by rfl)]; exact ih
    | var y =>
      rw [List.filterMap_cons_some (f := Term.nm) (b := y) (by rfl)]
      by_cases e : y ∈ b
      · rw [List.filterMap_cons_none (freeD_yes e), List.filter_cons_of_neg (by rw [memT_yes e]; decide)]; exact ih
      · rw [List.filterMap_cons_some (freeD_no e), List.filter_cons_of_pos (by rw [memT_no e]; rfl), List.map_cons, ih]
theorem mem_freeV {us : List Term} {b : List Str} {x : Str} : x ∈ freeV us b ↔ .var x ∈ us ∧ x ∉ b := by
  unfold freeV varsT
  rw [List.mem_filter, List.mem_filterMap]
  constructor
  · rintro ⟨⟨t, ht, e⟩, h⟩
    cases t with
    | var y => cases e; exact ⟨ht, fun z => by rw [memT_yes z] at h; cases h⟩
    | val v => cases e
  · rintro ⟨h1, h2⟩
    exact ⟨⟨_, h1, rfl⟩, by rw [memT_no h2]; rfl⟩
def kOf (ts : List Tb) (n : Str) : Nat := match findT ts n with
  | some t => t.k
  | none => 0
def keyT (ts : List Tb) (a : Atom) : List Term := a.2.take (kOf ts a.1)
def atA (j : Join) (i : Nat) : Atom := j.2.getD i (Str.empty, [])
theorem atA_mem {j : Join} {i : Nat} (h : i < j.2.length) : atA j i = j.2[i] ∧ atA j i ∈ j.2 := by
  have e : atA j i = j.2[i] := by unfold atA; rw [List.getD_eq_getElem?_getD, List.getElem?_eq_getElem h]; rfl
  exact ⟨e, by rw [e]; exact List.getElem_mem h⟩
def allIn (xs ys : List Str) : Bool := xs.all fun x => memT x ys
theorem allIn_iff {xs ys : List Str} : allIn xs ys = true ↔ Sub xs ys := by
  unfold allIn Sub
  rw [List.all_eq_true]
  exact ⟨fun h x hx => memT_iff.mp (h x hx), fun h x hx => memT_iff.mpr (h x hx)⟩
section
variable (ts : List Tb) (j : Join) (A : List Nat) (i : Nat) (b : List Str)
def keyV' (o : Nat) : List Str := freeV (keyT ts (atA j o)) b
def allV (o : Nat) : List Str := freeV (atA j o).2 b
def ruleC (o : Nat) : Rule Str := ⟨fun L => !decide (o = i) && allIn (keyV' ts j b o) L, allV j b o⟩
/-- the closure as the program finds it, not yet sorted -/
def clL : List Str := runU (A.map (ruleC ts j i b)) A.length (keyV' ts j b i)
def clF : List Str := setF (clL ts j A i b)
/-- N has the two properties -/
def isCl (N : List Str) : Bool := allIn (keyV' ts j b i) N && A.all fun o => decide (o = i) || !allIn (keyV' ts j b o) N || allIn (allV j b o) N
end
section
variable {ts : List Tb} {j : Join} {A : List Nat} {i : Nat} {b : List Str}
theorem mono_C : MonoR (A.map (ruleC ts j i b)) := fun r hr L M hs h => by
  obtain ⟨o, _, rfl⟩ := List.mem_map.mp hr
  simp only [ruleC, Bool.and_eq_true] at h ⊢
  exact ⟨h.1, allIn_iff.mpr ((allIn_iff.mp h.2).trans hs)⟩
theorem isCl_iff {N : List Str} : isCl ts j A i b N = true ↔ Sub (keyV' ts j b i) N ∧ ClosedR (A.map (ruleC ts j i b)) N := by
  unfold isCl
  rw [Bool.and_eq_true, allIn_iff, List.all_eq_true]
  refine and_congr_right fun _ => ?_
  constructor
  · intro h r hr hc
    obtain ⟨o, ho, rfl⟩ := List.mem_map.mp hr
    simp only [ruleC, Bool.and_eq_true, Bool.not_eq_true', decide_eq_false_iff_not] at hc
    have := h o ho
    simp only [Bool.or_eq_true, decide_eq_true_eq, Bool.not_eq_true'] at this
    rcases this with (e | e) | e
    · exact absurd e hc.1
    · rw [hc.2] at e; cases e
    · exact allIn_iff.mp e
  · intro h o ho
    simp only [Bool.or_eq_true, decide_eq_true_eq, Bool.not_eq_true']
    by_cases e1 : o = i
    · exact .inl (.inl e1)
    · cases e2 : allIn (keyV' ts j b o) N with
      | false => exact .inl (.inr rfl)
      | true =>
        refine .inr (allIn_iff.mpr (h _ (List.mem_map.mpr ⟨o, ho, rfl⟩) ?_))
        simp only [ruleC, Bool.and_eq_true, Bool.not_eq_true', decide_eq_false_iff_not]
        exact ⟨e1, e2⟩
theorem mem_clF {x : Str} : x ∈ clF ts j A i b ↔ x ∈ clL ts j A i b := setF_mem
theorem clF_asc : Asc (clF ts j A i b) := setF_asc _
/-- the closure has the two properties .. -/
theorem clL_closed : isCl ts j A i b (clL ts j A i b) = true := isCl_iff.mpr ⟨runU_grow _ _ _, runU_len mono_C _ (by rw [List.length_map]; exact Nat.le_refl _)⟩
theorem isCl_congr {N M : List Str} (h : ∀ x, x ∈ N ↔ x ∈ M) : isCl ts j A i b N = isCl ts j A i b M := by
  have e : ∀ xs, allIn xs N = allIn xs M := fun xs => by
    rw [Bool.eq_iff_iff, allIn_iff, allIn_iff]
    exact ⟨fun q x hx => (h x).mp (q x hx), fun q x hx => (h x).mpr (q x hx)⟩
  unfold isCl
  rw [e]
  congr 1
  exact congrArg (fun f => A.all f) (funext fun o => by rw [e, e])
theorem clF_closed : isCl ts j A i b (clF ts j A i b) = true := by
  rw [isCl_congr fun x => mem_clF]; exact clL_closed
/-- .. and is the least one -/
theorem clF_least {N : List Str} (h : isCl ts j A i b N = true) : Sub (clF ts j A i b) N := fun x hx => by
  obtain ⟨h1, h2⟩ := isCl_iff.mp h
  exact runU_least mono_C h2 h1 A.length x (mem_clF.mp hx)
theorem sub_take (us : List Term) (k : Nat) : Sub (freeV (us.take k) b) (freeV us b) := fun x hx => by
  obtain ⟨h1, h2⟩ := mem_freeV.mp hx
  exact mem_freeV.mpr ⟨List.mem_of_mem_take h1, h2⟩
theorem key_sub (o : Nat) : Sub (keyV' ts j b o) (allV j b o) := sub_take _ _
theorem allV_vars (o : Nat) : ∀ x ∈ allV j b o, x ∈ varsF j.2 ∧ x ∉ b := fun x hx => by
  obtain ⟨h1, h2⟩ := mem_freeV.mp hx
  refine ⟨?_, h2⟩
  by_cases e : o < j.2.length
  · exact mem_varsF.mpr ⟨_, (atA_mem e).2, h1⟩
  · unfold atA at h1
    rw [List.getD_eq_getElem?_getD, List.getElem?_eq_none (by omega)] at h1
    cases h1
theorem clF_vars : ∀ x ∈ clF ts j A i b, x ∈ varsF j.2 ∧ x ∉ b := by
  have h : Sub (clF ts j A i b) ((varsF j.2).filter fun x => !memT x b) := by
    refine clF_least (isCl_iff.mpr ⟨fun x hx => ?_, fun r hr _ x hx => ?_⟩)
    · obtain ⟨h1, h2⟩ := allV_vars i x (key_sub i x hx)
      exact List.mem_filter.mpr ⟨h1, by rw [memT_no h2]; rfl⟩
    · obtain ⟨o, _, rfl⟩ := List.mem_map.mp hr
      obtain ⟨h1, h2⟩ := allV_vars o x hx
      exact List.mem_filter.mpr ⟨h1, by rw [memT_no h2]; rfl⟩
  intro x hx
  obtain ⟨h1, h2⟩ := List.mem_filter.mp (h x hx)
  refine ⟨h1, fun z => by rw [memT_yes z] at h2; cases h2⟩
end
/-- all parts of a list, as the law makes them -/
def partsF (fs : List Str) : List (List Str) := fs.foldl (fun S x => S ++ S.map fun N => N ++ [x]) [[]]
theorem partsF_snoc (fs : List Str) (x : Str) : partsF (fs ++ [x]) = partsF fs ++ (partsF fs).map fun N => N ++ [x] := by
  unfold partsF
  rw [List.foldl_append]; rfl
theorem partsF_len : ∀ fs : List Str, (partsF fs).length = 2 ^ fs.length := snocInd rfl fun fs x ih => by
  rw [partsF_snoc, List.length_append, List.length_map, ih, List.length_append, List.length_singleton, Nat.pow_succ]; omega
theorem partsF_wide : ∀ fs : List Str, ∀ N ∈ partsF fs, N.length ≤ fs.length := snocInd (fun N h => by rw [List.mem_singleton.mp h]; exact Nat.le_refl _) fun fs x ih N h => by
  rw [partsF_snoc] at h
  rw [List.length_append, List.length_singleton]
  rcases List.mem_append.mp h with z | z
  · have := ih N z; omega
  · obtain ⟨M, hM, rfl⟩ := List.mem_map.mp z
    have := ih M hM
    rw [List.length_append, List.length_singleton]; omega
theorem partsF_mem (p : Str → Bool) : ∀ fs : List Str, fs.filter p ∈ partsF fs := snocInd (List.mem_singleton.mpr rfl) fun fs x ih => by
  rw [partsF_snoc, List.filter_append]
  cases e : p x with
  | true => exact List.mem_append_right _ (List.mem_map.mpr ⟨_, ih, by simp [e]⟩)
  | false => exact List.mem_append_left _ (by simpa [e] using ih)
/-- the names that stand in every set with the two properties -/
def meetF (P : List Str → Bool) (fs : List Str) (S : List (List Str)) : List Str := S.foldl (fun L N => if P N = true then L.filter fun x => memT x N else L) fs
theorem meetF_snoc (P : List Str → Bool) (fs : List Str) (S : List (List Str)) (N : List Str) : meetF P fs (S ++ [N]) = if P N = true then (meetF P fs S).filter fun x => memT x N else meetF P fs S := by
  unfold meetF
  rw [List.foldl_append]; rfl
theorem meetF_mem {P : List Str → Bool} {fs : List Str} {x : Str} : ∀ S : List (List Str), x ∈ meetF P fs S ↔ x ∈ fs ∧ ∀ N ∈ S, P N = true → x ∈ N := by
  refine snocInd ⟨fun h => ⟨h, fun N hN => by cases hN⟩, fun h => h.1⟩ fun S N ih => ?_
  rw [meetF_snoc]
  by_cases e : P N = true
  · rw [if_pos e, List.mem_filter, ih, memT_iff]
    constructor
    · rintro ⟨⟨h1, h2⟩, h3⟩
      exact ⟨h1, fun M hM q => (List.mem_append.mp hM).elim (fun z => h2 M z q) fun z => by rw [List.mem_singleton.mp z]; exact h3⟩
    · rintro ⟨h1, h2⟩
      exact ⟨⟨h1, fun M hM => h2 M (List.mem_append_left _ hM)⟩, h2 N (List.mem_append_right _ (List.mem_singleton.mpr rfl)) e⟩
  · rw [if_neg e, ih]
    refine and_congr_right fun _ => ⟨fun h M hM q => (List.mem_append.mp hM).elim (fun z => h M z q) fun z => by rw [List.mem_singleton.mp z] at q; exact absurd q e, fun h M hM => h M (List.mem_append_left _ hM)⟩
theorem meetF_asc {P : List Str → Bool} {fs : List Str} (h : Asc fs) : ∀ S : List (List Str), Asc (meetF P fs S) := snocInd h fun S N ih => by
  rw [meetF_snoc]
  split
  · exact ih.filter _
  · exact ih
theorem meetF_len {P : List Str → Bool} {fs : List Str} : ∀ S : List (List Str), (meetF P fs S).length ≤ fs.length := snocInd (Nat.le_refl _) fun S N ih => by
  rw [meetF_snoc]
  split
  · exact Nat.le_trans (List.length_filter_le ..) ih
  · exact ih
/-- the law's closure is the program's -/
theorem meet_cl {ts : List Tb} {j : Join} {A : List Nat} {i : Nat} {b : List Str} : meetF (isCl ts j A i b) ((setF (varsF j.2)).filter fun x => !memT x b) (partsF ((setF (varsF j.2)).filter fun x => !memT x b)) = clF ts j A i b := by
  refine asc_unique (meetF_asc ((setF_asc _).filter _) _) clF_asc fun x => ?_
  rw [meetF_mem]
  constructor
  · rintro ⟨_, h⟩
    have h2 := h _ (partsF_mem (fun x => memT x (clF ts j A i b)) _) (by
      rw [isCl_congr (M := clF ts j A i b) fun y => ?_]
      · exact clF_closed
      · rw [List.mem_filter, memT_iff]
        refine ⟨fun q => q.2, fun q => ⟨?_, q⟩⟩
        obtain ⟨q1, q2⟩ := clF_vars y q
        exact List.mem_filter.mpr ⟨setF_mem.mpr q1, by rw [memT_no q2]; rfl⟩)
    exact memT_iff.mp (List.mem_filter.mp h2).2
  · intro hx
    obtain ⟨q1, q2⟩ := clF_vars x hx
    exact ⟨List.mem_filter.mpr ⟨setF_mem.mpr q1, by rw [memT_no q2]; rfl⟩, fun N _ hN => clF_least hN x hx⟩
/-- a join whose attacks may be looked at -/
structure CjOk (ts : List Tb) (j : Join) : Prop where
  tab : ∀ a ∈ j.2, hasT ts (a.1, [])
  wd : ∀ a ∈ j.2, a.2.length ≤ 40
  n : j.2.length ≤ 10
theorem CjOk.vars {ts : List Tb} {j : Join} (h : CjOk ts j) : (varsF j.2).length ≤ 400 := by
  have := varsF_len (n := 40) h.wd
  have := h.n
  omega
theorem CjOk.at_ {ts : List Tb} {j : Join} (h : CjOk ts j) {i : Nat} (hi : i < j.2.length) : hasT ts ((atA j i).1, []) ∧ (atA j i).2.length ≤ 40 := ⟨h.tab _ (atA_mem hi).2, h.wd _ (atA_mem hi).2⟩
/-- what is known while names grow -/
def Few (j : Join) (L : List Str) : Prop := L.length ≤ 400 ∧ ∀ x ∈ L, x ∈ varsF j.2
theorem Few.step {ts : List Tb} {j : Join} {L : List Str} {r : Rule Str} (h : CjOk ts j) (f : Few j L) (hr : ∀ x ∈ r.a, x ∈ varsF j.2) : Few j (stepU L r) := by
  unfold stepU
  split
  · have m : ∀ x ∈ L ++ r.a, x ∈ varsF j.2 := fun x hx => (List.mem_append.mp hx).elim (f.2 x) (hr x)
    exact ⟨Nat.le_trans (setF_le m) h.vars, fun x hx => m x (setF_mem.mp hx)⟩
  · exact f
theorem Few.free {ts : List Tb} {j : Join} {b : List Str} {o : Nat} (h : CjOk ts j) (ho : o < j.2.length) : Few j (allV j b o) ∧ Few j (keyV' ts j b o) := by
  have w := (h.at_ ho).2
  have l1 := freeV_len (atA j o).2 b
  have l2 := freeV_len (keyT ts (atA j o)) b
  have l3 : (keyT ts (atA j o)).length ≤ (atA j o).2.length := by unfold keyT; rw [List.length_take]; omega
  refine ⟨⟨by show (freeV _ b).length ≤ _; omega, fun x hx => (allV_vars o x hx).1⟩, ⟨by show (freeV _ b).length ≤ _; omega, fun x hx => (allV_vars o x (key_sub o x hx)).1⟩⟩
theorem Few.run {ts : List Tb} {j : Join} {L : List Str} (h : CjOk ts j) {rs : List (Rule Str)} (hr : ∀ r ∈ rs, ∀ x ∈ r.a, x ∈ varsF j.2) (f : Few j L) : ∀ n, Few j (runU rs n L)
  | 0 => f
  | n + 1 => by
    have ih := Few.run h hr f n
    have key : ∀ (qs : List (Rule Str)) (M : List Str), (∀ r ∈ qs, r ∈ rs) → Few j M → Few j (qs.foldl stepU M) := fun qs => by
      induction qs with
      | nil => exact fun M _ f => f
      | cons q qs ih => exact fun M hq f => ih _ (fun r hr => hq r (List.mem_cons_of_mem _ hr)) (f.step h (hr q (hq q List.mem_cons_self)))
    exact key rs _ (fun r h => h) ih
theorem false_in {xs : List Str} {p : Str → Bool} {_ : Decidable (false ∈ xs.map p)} : decide (false ∈ xs.map p) = !xs.all p := by
  rw [Bool.eq_iff_iff, decide_eq_true_eq, Bool.not_eq_true', List.mem_map, List.all_eq_false]
  exact ⟨fun ⟨x, hx, e⟩ => ⟨x, hx, by rw [e]; decide⟩, fun ⟨x, hx, e⟩ => ⟨x, hx, by simpa using e⟩⟩
theorem gt0_all {xs N : List Str} : decide ((0 : Int) < ((xs.filter fun x => !memT x N).length : Int)) = !allIn xs N := by
  rw [Bool.eq_iff_iff, decide_eq_true_eq, Bool.not_eq_true']
  unfold allIn
  rw [List.all_eq_false]
  constructor
  · intro h
    obtain ⟨x, hx⟩ := List.exists_mem_of_length_pos (show 0 < (xs.filter fun x => !memT x N).length by omega)
    obtain ⟨h1, h2⟩ := List.mem_filter.mp hx
    exact ⟨x, h1, by simpa using h2⟩
  · rintro ⟨x, hx, e⟩
    have := List.length_pos_of_mem (List.mem_filter (p := fun x => !memT x N).mpr ⟨hx, (by simpa using e : (!memT x N) = true)⟩)
    omega
theorem eq0_all {xs N : List Str} : decide (((xs.filter fun x => !memT x N).length : Int) = 0) = allIn xs N := by
  have h := gt0_all (xs := xs) (N := N)
  cases e : allIn xs N with
  | true =>
    rw [e] at h
    have := of_decide_eq_false h
    exact decide_eq_true (by omega)
  | false =>
    rw [e] at h
    have := of_decide_eq_true h
    exact decide_eq_false (by omega)
theorem inX_false1 {xs : List Str} {p : Str → Bool} {Q : W → Prop} (h : Q (.d (.bool (xs.all p)))) : inX true (.d (.bool false)) (.l (xs.map fun x => PyData.bool (p x))) Q := by
  rw [show (xs.map fun x => PyData.bool (p x)) = (xs.map p).map Enc.d from (List.map_map ..).symm]
  refine inX_l1 (a := false) (xs := xs.map p) ?_
  rw [false_in, Bool.not_not]; exact h
theorem inX_false0 {xs : List Str} {p : Str → Bool} {Q : W → Prop} (h : Q (.d (.bool (!xs.all p)))) : inX false (.d (.bool false)) (.l (xs.map fun x => PyData.bool (p x))) Q := by
  rw [show (xs.map fun x => PyData.bool (p x)) = (xs.map p).map Enc.d from (List.map_map ..).symm]
  refine inX_l0 (a := false) (xs := xs.map p) ?_
  rw [false_in]; exact h
/-- a comprehension over a range that takes some of the numbers, whichever -/
theorem lcR_some {n : Nat} {g : TGd} {c : TTd} {elt : TEd} {vs : List Nat} {ρ : En} {Q : W → Prop} (h : ∀ i < n, ∀ (k : PyData → Prop) (z : Prop), k (.int (i : Int)) → z → g (.int (i : Int)) (wipeD ρ vs) fun ρ' => c ρ' fun b => iB b (elt ρ' fun w => onFw w fun y => k y) z)
    (q : ∀ A : List Nat, Asc A → (∀ o ∈ A, o < n) → Q (.l (A.map Enc.d))) : lcR (rngD 0 n) g c elt vs ρ Q := by
  have e : rngD 0 n = (List.range n).map fun (i : Nat) => PyData.int (i : Int) := by
    unfold rngD
    refine List.map_congr_left fun i _ => ?_
    rw [Int.zero_add]
  rw [e]
  refine lcR_inv (fun pre acc => ∃ A : List Nat, acc = A.map Enc.d ∧ A.Sublist pre) ⟨[], rfl, .slnil⟩ (fun pre x post acc hx ha => ?_) fun acc ha => ?_
  · obtain ⟨A, rfl, hs⟩ := ha
    have hm : x < n := List.mem_range.mp (by rw [hx]; simp)
    exact h x hm (fun y => ∃ B : List Nat, A.map Enc.d ++ [y] = B.map Enc.d ∧ B.Sublist (pre ++ [x])) _ ⟨A ++ [x], by rw [List.map_append]; rfl, hs.append (.refl _)⟩ ⟨A, rfl, hs.trans (List.sublist_append_left ..)⟩
  · obtain ⟨A, rfl, hs⟩ := ha
    exact q A (Asc.sub hs (range_asc n)) fun o ho => List.mem_range.mp (hs.subset ho)
/-- ints and numbers -/
theorem setF_cast {A : List Nat} {i : Nat} {m : Nat} (h : ∀ o ∈ A, o < m) (hi : i < m) : ∃ B : List Nat, (setF ((A ++ [i]).map fun n : Nat => (n : Int))).map PyData.int = B.map Enc.d ∧ Asc B ∧ (∀ o ∈ B, o < m) ∧ i ∈ B := by
  refine ⟨setF (A ++ [i]), ?_, setF_asc _, fun o ho => ?_, setF_mem.mpr (by simp)⟩
  · have e : setF ((A ++ [i]).map fun n : Nat => (n : Int)) = (setF (A ++ [i])).map fun n : Nat => (n : Int) := by
      refine (setF_of ?_ fun k => ?_).symm
      · unfold Asc
        rw [List.pairwise_map]
        refine (setF_asc (A ++ [i])).imp fun {a b} q => ?_
        have q : a < b := of_decide_eq_true q
        exact decide_eq_true (by omega : (a : Int) < (b : Int))
      · rw [List.mem_map, List.mem_map]
        exact ⟨fun ⟨x, hx, e⟩ => ⟨x, setF_mem.mp hx, e⟩, fun ⟨x, hx, e⟩ => ⟨x, setF_mem.mpr hx, e⟩⟩
    rw [e, List.map_map]; rfl
  · rcases List.mem_append.mp (setF_mem.mp ho) with z | z
    · exact h o z
    · rw [List.mem_singleton.mp z]; exact hi
end DL

/-! DL48: expressions that change own lists (xs.pop(i) as a value). -/
namespace DL
open PySem PySem.Spec PyProof.Rows L2
abbrev TXd := En → (W → En → Prop) → Prop
abbrev TXAd := En → (List W → En → Prop) → Prop
/-- the value is data -/
def SndX (K : KW) (Z : Wish) (te : TE) (t : TXd) : Prop := ∀ (G0 H0 G H : Hp) (σ : L2.St) (ρ : En) (Q' : W → En → Prop) (Q : VK), DEnv K G0 H0 G H σ ρ → Good K Z G0 H0 → t ρ Q' →
  (∀ v d G' H' ρ', DEnv K G0 H0 G' H' σ ρ' → Ex G G' → Is K G' v d → Q' (.d d) ρ' → Q v H') → te σ H Q
def SndXA (K : KW) (Z : Wish) (te : TA) (t : TXAd) : Prop := ∀ (G0 H0 G H : Hp) (σ : L2.St) (ρ : En) (Q' : List W → En → Prop) (Q : List V → Hp → Prop), DEnv K G0 H0 G H σ ρ → Good K Z G0 H0 → t ρ Q' →
  (∀ vs ws G' H' ρ', DEnv K G0 H0 G' H' σ ρ' → Ex G G' → RRs K H0 H' G' H' vs ws → Q' ws ρ' → Q vs H') → te σ H Q
def PDX (X : Cx) (Z : Wish) (e : Expr) (t : TXd) : Prop := ∃ te, PE X e te ∧ SndX (kw X) Z te t
def PDXA (X : Cx) (Z : Wish) (es : List Expr) (t : TXAd) : Prop := ∃ te, PA X es te ∧ SndXA (kw X) Z te t
def onDt (w : W) (k : PyData → Prop) : Prop := match w with
  | .d d => k d
  | _ => False
theorem onDt_of {w : W} {k : PyData → Prop} (h : onDt w k) : ∃ d, w = .d d ∧ k d := by
  cases w with
  | d x => exact ⟨x, rfl, h⟩
  | _ => exact h.elim
section
variable {X : Cx} {Z : Wish} {K : KW} {a e : Expr} {es : List Expr} {pos : Pos}
def xPop (j : Nat) (u : TAd) : TXd := fun ρ Q => onL ρ j fun xs => u ρ fun ws => match ws with
  | [.d (.int n)] => 0 ≤ n ∧ ∃ d, atI xs n = some d ∧ Q (.d d) (ρ.set j (some (.l (xs.eraseIdx n.toNat))))
  | _ => False
theorem snd_xpop {j : Nat} {us : TA} {u : TAd} (s1 : SndA K Z us u) : SndX K Z (tBM K "list" rPopAt (tVar j) us) (xPop j u) := by
  intro G0 H0 G H σ ρ Q' Q E gd h k
  obtain ⟨xs, e1, h⟩ := onL_of h
  obtain ⟨p, vs, hp, hv, z, al⟩ := own_at E e1
  refine ⟨.ref p, hp, .inl ⟨rfl, vs, SqL.of hv⟩, ?_⟩
  refine s1 G0 H0 G H σ ρ _ _ E gd h fun as ws G1 H1 u1 r1 q1 => ?_
  split at q1
  · rename_i m
    obtain ⟨v1, rfl, ra⟩ := r1.one
    cases ra
    obtain ⟨z0, d, hd, q⟩ := q1
    obtain ⟨q0, rfl⟩ := Int.eq_ofNat_of_zero_le z0
    have uf := frzAll_up u1
    have hl := al.len
    have szl : (sizeLine : Nat) = 16777216 := sizeLine_eq
    have hd2 : xs[q0]? = some d := by
      unfold atI at hd
      cases hx : ixN xs.length (q0 : Int) with
      | none => rw [hx] at hd; cases hd
      | some j2 =>
        rw [hx] at hd
        have e3 : j2 = q0 := by
          unfold ixN at hx
          rw [if_pos (by omega)] at hx
          split at hx
          · have := Option.some.inj hx; omega
          · cases hx
        subst e3
        exact hd
    have hj : q0 < xs.length := (List.getElem?_eq_some_iff.mp hd2).1
    obtain ⟨y, hy, iy⟩ := al.get hd2
    refine ⟨p, vs, (q0 : Int), q0, y, rfl, rfl, u1.h _ _ hv, by omega, by omega, ?_, hy, ?_⟩
    · unfold seqIndex?
      have e0 : ¬ (q0 : Int) < 0 := by omega
      simp only [if_neg e0]
      have e2 : (0 : Int) ≤ q0 := by omega
      have e3 : (q0 : Int) < (vs.length : Int) := by omega
      simp [e2, e3]
    · have E2 := (E.to uf).mut (gx_some e1) hp (Nat.le_trans (List.length_eraseIdx_le ..) z) ((al.up uf.g).eraseAt q0)
      exact k y d _ _ _ E2 uf.g (iy.up uf.g) q
  · exact q1.elim
theorem dx_pop (j : Nat) {u : TAd} {x : Str} {pn apos cpos : Pos} (hu : PDA X Z [a] u) (hN : X.N[j]? = some x := by rfl) (hv : Vis X.env.scope x := by first | exact Or.inl rfl | exact Or.inr (Or.inl rfl) | exact Or.inr (Or.inr rfl)) (hd : (x == ("__debug__" : Str)) = false := by decide) (hcd : (x == ("__classdict__" : Str)) = false := by decide)
    (hbase : attributeBase (.Name x pn) "pop" X.env (eval (.Name x pn) X.env) = eval (.Name x pn) X.env := by rfl)
    (hfew : ((backTo cpos (starEach [a] X.env)).all (fun x => !x.1) && (backToKw cpos (keywordEach [] X.env)).all (fun x => x.1.isSome) && decide ([a].length + ([] : List Keyword).length + (if ([] : List Keyword).isEmpty then 0 else 1) < 30)) = true := by rfl)
    (hline : (apos.endLine == cpos.line) = true := by rfl) (hst : starEach [a] X.env = (false, eval a X.env) :: starEach [] X.env := by rfl) (hplain : (backTo cpos (starEach [] X.env)).any (·.1) = false := by rfl) :
    PDX X Z (.Call (.Attribute (.Name x pn) "pop" apos) [a] [] cpos) (xPop j u) := by
  obtain ⟨t1, p1, s1⟩ := hu
  exact ⟨_, pe_bm PySem.F.plainAttrs_list PySem.F.slot_list_pop PySem.F.type_list_pop mt_popAt (pe_var hN hv hd hcd) p1 hbase hfew hline hst hplain, snd_xpop s1⟩
/-! arguments: the last one has the effect -/
def xLast (t : TXd) : TXAd := fun ρ Q => t ρ fun w ρ' => Q [w] ρ'
def xCons (t : TEd) (u : TXAd) : TXAd := fun ρ Q => t ρ fun w => onDt w fun d => u ρ fun ws ρ' => Q (.d d :: ws) ρ'
theorem snd_xlast {te : TE} {t : TXd} (s : SndX K Z te t) : SndXA K Z (tCons te tNil) (xLast t) := by
  intro G0 H0 G H σ ρ Q' Q E gd h k
  refine s G0 H0 G H σ ρ _ _ E gd h fun v d G1 H1 ρ1 E1 g1 i1 q1 => ?_
  exact k [v] [.d d] G1 H1 ρ1 E1 g1 (.cons i1 .nil) q1
theorem snd_xcons {te : TE} {ts : TA} {t : TEd} {u : TXAd} (s1 : Snd K Z te t) (s2 : SndXA K Z ts u) : SndXA K Z (tCons te ts) (xCons t u) := by
  intro G0 H0 G H σ ρ Q' Q E gd h k
  refine s1 G0 H0 G H σ ρ _ _ E gd h fun v w G1 H1 u1 r1 q1 => ?_
  obtain ⟨d, rfl, q1⟩ := onDt_of q1
  have i1 : Is K G1 v d := r1
  refine s2 G0 H0 G1 H1 σ ρ _ _ (E.to u1) gd q1 fun vs ws G2 H2 ρ2 E2 g2 r2 q2 => ?_
  exact k (v :: vs) (.d d :: ws) G2 H2 ρ2 E2 (u1.g.trans g2) (.cons (i1.up g2) r2) q2
theorem dxa_last {t : TXd} (h : PDX X Z e t) (hs : starEach [e] X.env = (false, eval e X.env) :: starEach [] X.env := by rfl) : PDXA X Z [e] (xLast t) := by
  obtain ⟨te, p, s⟩ := h
  exact ⟨_, pa_cons p pa_nil hs, snd_xlast s⟩
theorem dxa_cons {t : TEd} {u : TXAd} (h1 : PD X Z e t) (h2 : PDXA X Z es u) (hs : starEach (e :: es) X.env = (false, eval e X.env) :: starEach es X.env := by rfl) : PDXA X Z (e :: es) (xCons t u) := by
  obtain ⟨te, p1, s1⟩ := h1
  obtain ⟨ts, p2, s2⟩ := h2
  exact ⟨_, pa_cons p1 p2 hs, snd_xcons s1 s2⟩
/-- f(.., e), its answer data -/
def xCall (spd : Spd) (ZD : XEd) (u : TXAd) : TXd := fun ρ Q => u ρ fun ws ρ' => callR spd ws (fun w => onDt w fun d => Q (.d d) ρ') ZD
theorem callR_un {spd : Spd} {ws : List W} {Q : W → Prop} {ZD : XEd} (h : callR spd ws Q ZD) : onOk (okB ws) (spd (ws.map argW) (fun w => onRes w Q) ZD) := by unfold callR at h; exact h
theorem snd_xcall {spd : Spd} {ts : TA} {u : TXAd} {ZE : XK} {ZD : XEd} (s : SndXA K ⟨ZE, ZD⟩ ts u) : SndX K ⟨ZE, ZD⟩ (tCall (toSp K spd) [] ZE ts) (xCall spd ZD u) := by
  intro G0 H0 G H σ ρ Q' Q E gd hh k
  refine s G0 H0 G H σ ρ _ _ E gd hh fun vs ws G1 H1 ρ1 E1 g1 r1 q1 => ?_
  obtain ⟨okb, q1⟩ := onOk_of (callR_un q1)
  rw [List.append_nil]
  refine ⟨G1, ws.map argW, _, ZD, E1.gh, r1.args E1 (okB_of okb), q1, fun v w G2 H2 u2 r2 q2 => ?_, fun cls d G' H' fs u' x q => gd cls d G' H' fs (E1.up.trans u') x q⟩
  cases w with
  | d x => exact k v x G2 H2 ρ1 (E1.to u2) (g1.trans u2.g) r2 q2
  | l x => exact q2.elim
  | drw => exact q2.elim
  | b x => exact q2.elim
  | r x => exact q2.elim
  | x y => cases y <;> exact q2.elim
theorem dx_call {ZE : XK} {ZD : XEd} {CX : CXT} {k : Nat} {f : Addr} {fd : FuncData} {ps : List Str} {spd : Spd} {x : Str} {p : Pos} {u : TXAd} (F : FnOk X.prog X.w (kw X) X.mg X.base CX k f fd ps (toSp (kw X) spd)) (hr : Room k X.A) (hm : X.mg x = some (.ref f)) (hk : PySem.W.keepIn (kw X) (.ref f) = true) (hb : Binds (kw X) fd ps [])
    (hx : Passes CX X ZE) (ha : PDXA X ⟨ZE, ZD⟩ (e :: es) u) (hg : Gl X x := by rfl) (hdb : (x == ("__debug__" : Str)) = false := by decide) (he : starEach (e :: es) X.env = (false, eval e X.env) :: starEach es X.env := by rfl) (hpl : (backTo pos (starEach es X.env)).any (·.1) = false := by rfl) :
    PDX X ⟨ZE, ZD⟩ (.Call (.Name x p) (e :: es) [] pos) (xCall spd ZD u) := by
  obtain ⟨ts, pa, sa⟩ := ha
  exact ⟨_, pe_call F hr hg hm hk hb .nil hx pa hdb he hpl, snd_xcall sa⟩
/-! statements -/
/-- x = e -/
def sSetX (i : Nat) (t : TXd) : TSd := fun D ρ => t ρ fun w ρ' => D.nx (ρ'.set i (some w))
theorem snd_setX {i : Nat} {ue : TE} {t : TXd} (s1 : SndX K Z ue t) : SndS K Z (tAsg ue (gName i)) (sSetX i t) := by
  intro G0 H0 G H σ ρ D' D E gd h n r b c
  refine s1 G0 H0 G H σ ρ _ _ E gd h fun v d G1 H1 ρ1 E1 g1 i1 q1 => ?_
  exact n _ G1 H1 _ (E1.setD i i1) q1
theorem ds_setX {i : Nat} {x : Str} {pos' : Pos} {t : TXd} (hN : X.N.Nodup) (he : PDX X Z e t) (hi : X.N[i]? = some x := by rfl) (hx : Loc X.env.scope x := by first | exact Or.inl rfl | exact Or.inr rfl) (hs : swapsWith e (some (.Name x pos')) pos.line X.env = pure false := by rfl) (hf : X.fn x = true ∨ X.env.scope.names.lookup x = some .local := by first | exact .inl rfl | exact .inr rfl | assumption) :
    PDS X Z (.Assign [.Name x pos'] e pos) (sSetX i t) := by
  obtain ⟨t1, p1, s1⟩ := he
  exact ⟨_, ps_set hN hi hx p1 hs hf, snd_setX s1⟩
/-- ys.append(e) -/
def sAppX (i : Nat) (t : TXd) : TSd := fun D ρ => onL ρ i fun _ => t ρ fun w ρ' => onDt w fun d => onL ρ' i fun ys => ys.length < sizeLine ∧ D.nx (ρ'.set i (some (.l (ys ++ [d]))))
theorem snd_appX {i : Nat} {ue : TE} {t : TXd} (s1 : SndX K Z ue t) : SndS K Z (tDrop (tBM K "list" rAppend (tVar i) (tCons ue tNil))) (sAppX i t) := by
  intro G0 H0 G H σ ρ D' D E gd h n r b c
  obtain ⟨xs, e1, h⟩ := onL_of h
  obtain ⟨p, vs, hp, hv, z, a⟩ := own_at E e1
  refine ⟨.ref p, hp, .inl ⟨rfl, vs, SqL.of hv⟩, ?_⟩
  refine s1 G0 H0 G H σ ρ _ _ E gd h fun v d G1 H1 ρ1 E1 g1 i1 q1 => ?_
  obtain ⟨d2, ed, q1⟩ := onDt_of q1
  cases ed
  obtain ⟨ys, e2, zl, q⟩ := onL_of q1
  obtain ⟨p2, vs2, hp2, hv2, z2, a2⟩ := own_at E1 e2
  have ep : p2 = p := by
    rw [hp] at hp2
    injection hp2 with q; injection q with q; injection q with q; exact q.symm
  subst ep
  exact ⟨p2, vs2, v, rfl, rfl, hv2, by rw [a2.len]; exact zl, n _ _ _ _ (E1.mut (gx_some e2) hp2 (by rw [List.length_append]; simp; omega) (a2.append (.one i1))) q⟩
theorem ds_appX (j : Nat) {x : Str} {pn apos cpos : Pos} {t : TXd} (he : PDX X Z e t) (hN : X.N[j]? = some x := by rfl) (hv : Vis X.env.scope x := by first | exact Or.inl rfl | exact Or.inr (Or.inl rfl) | exact Or.inr (Or.inr rfl)) (hd : (x == ("__debug__" : Str)) = false := by decide) (hcd : (x == ("__classdict__" : Str)) = false := by decide)
    (hbase : attributeBase (.Name x pn) "append" X.env (eval (.Name x pn) X.env) = eval (.Name x pn) X.env := by rfl)
    (hfew : ((backTo cpos (starEach [e] X.env)).all (fun x => !x.1) && (backToKw cpos (keywordEach [] X.env)).all (fun x => x.1.isSome) && decide ([e].length + ([] : List Keyword).length + (if ([] : List Keyword).isEmpty then 0 else 1) < 30)) = true := by rfl)
    (hline : (apos.endLine == cpos.line) = true := by rfl) (hst : starEach [e] X.env = (false, eval e X.env) :: starEach [] X.env := by rfl) (hplain : (backTo cpos (starEach [] X.env)).any (·.1) = false := by rfl)
    (hs : swapsWith (.Call (.Attribute (.Name x pn) "append" apos) [e] [] cpos) none pos.line X.env = pure false := by rfl) :
    PDS X Z (.Expr (.Call (.Attribute (.Name x pn) "append" apos) [e] [] cpos) pos) (sAppX j t) := by
  obtain ⟨t1, p0, s1⟩ := he
  have p1 := pa_cons p0 pa_nil hst
  exact ⟨_, ps_expr (pe_bm PySem.F.plainAttrs_list PySem.F.slot_list_append PySem.F.type_list_append mt_append (pe_var hN hv hd hcd) p1 hbase hfew hline hst hplain) hs, snd_appX s1⟩
end
/-- a schema, a simple join of it, names -/
structure WideW (ts : List Tb) (j : Join) (vn : List Str) : Prop where
  so : SchOk ts
  hd : j.1 = []
  tab : ∀ a ∈ j.2, ∃ t ∈ ts, a.1 = t.n ∧ a.2.length = t.k + t.r
  simple : (j.2.map (·.1)).Nodup
  n8 : j.2.length ≤ 8
  srt : Srt vn
  vnd : vn.Nodup
  v6 : vn.length ≤ 6
  v1 : 0 < vn.length
  vars : ∀ a ∈ j.2, ∀ x, .var x ∈ a.2 → x ∈ vn
  ok : ∀ a ∈ j.2, ∀ t ∈ a.2, termOk t = true
  vw : ∀ x ∈ vn, isW x = true
theorem WideW.cj {ts : List Tb} {j : Join} {vn : List Str} (h : WideW ts j vn) {hd : List Term} : CjOk ts (hd, j.2) where
  tab := fun a ha => by
    obtain ⟨t, ht, e, _⟩ := h.tab a ha
    exact ⟨t, by rw [e]; exact findT_mem h.so.nd ht⟩
  wd := fun a ha => by
    obtain ⟨t, ht, e, l⟩ := h.tab a ha
    have := (h.so.wd t ht).2
    omega
  n := Nat.le_trans h.n8 (by decide)
theorem WideW.few {ts : List Tb} {j : Join} {vn : List Str} (h : WideW ts j vn) : (setF (varsF j.2)).length ≤ 6 := by
  refine Nat.le_trans (setF_le fun x hx => ?_) h.v6
  obtain ⟨a, ha, hm⟩ := mem_varsF.mp hx
  exact h.vars a ha x hm
theorem CjOk.other {ts us : List Tb} {j : Join} (h : CjOk ts j) (e : us.map Tb.n = ts.map Tb.n) : CjOk us j := ⟨fun a ha => hasT_names e (h.tab a ha), h.wd, h.n⟩
end DL

/-! DL49: attacked names, attacks. -/
namespace DL
open PySem PySem.Spec PyProof.Rows L2
section
variable (ts : List Tb) (j : Join) (A : List Nat) (i : Nat) (b : List Str)
/-- the names of an atom that are not closed -/
def opn (C : List Str) (o : Nat) : List Str := (allV j b o).filter fun x => !memT x C
def ruleA (C : List Str) (o : Nat) : Rule Str := ⟨fun L => (opn j b C o).any fun x => memT x L, opn j b C o⟩
def attL : List Str := runU (A.map (ruleA j b (clF ts j A i b))) A.length (opn j b (clF ts j A i b) i)
def attF : List Str := setF (attL ts j A i b)
/-- does i attack o? -/
def atkB (o : Nat) : Bool := !decide (o = i) && (attF ts j A i b).any fun x => memT (Term.var x) (atA j o).2
end
def atksF (ts : List Tb) (j : Join) (A : List Nat) (b : List Str) : List (Nat × Nat) := A.flatMap fun i => (A.filter (atkB ts j A i b)).map fun o => (i, o)
section
variable {ts : List Tb} {j : Join} {A : List Nat} {i : Nat} {b C : List Str}
theorem mem_opn {o : Nat} {x : Str} : x ∈ opn j b C o ↔ x ∈ allV j b o ∧ x ∉ C := by
  unfold opn
  rw [List.mem_filter]
  exact and_congr_right fun _ => ⟨(fun h z => by rw [memT_yes z] at h; cases h), fun h => by rw [memT_no h]; rfl⟩
theorem mono_A : MonoR (A.map (ruleA j b C)) := fun r hr L M hs h => by
  obtain ⟨o, _, rfl⟩ := List.mem_map.mp hr
  simp only [ruleA, List.any_eq_true] at h ⊢
  obtain ⟨x, hx, e⟩ := h
  exact ⟨x, hx, memT_yes (hs x (memT_iff.mp e))⟩
/-- the least set that holds L and is closed is one -/
theorem runU_same {α : Type} [SO α] [DecidableEq α] {rs : List (Rule α)} (mo : MonoR rs) {L M : List α} {n m : Nat} (e : ∀ x, x ∈ L ↔ x ∈ M) (c1 : ClosedR rs (runU rs n L)) (c2 : ClosedR rs (runU rs m M)) : ∀ x, x ∈ runU rs n L ↔ x ∈ runU rs m M := fun x =>
  ⟨runU_least mo c2 (fun y hy => runU_grow rs M m y ((e y).mp hy)) n x, runU_least mo c1 (fun y hy => runU_grow rs L n y ((e y).mpr hy)) m x⟩
theorem runU_asc {α : Type} [SO α] [DecidableEq α] {rs : List (Rule α)} {L : List α} (h : Asc L) : ∀ n, Asc (runU rs n L)
  | 0 => h
  | n + 1 => by
    have key : ∀ (qs : List (Rule α)) (M : List α), Asc M → Asc (qs.foldl stepU M) := fun qs => by
      induction qs with
      | nil => exact fun M h => h
      | cons q qs ih =>
        intro M h
        refine ih _ ?_
        unfold stepU
        split
        · exact setF_asc _
        · exact h
    exact key rs _ (runU_asc h n)
theorem attL_closed : ClosedR (A.map (ruleA j b (clF ts j A i b))) (attL ts j A i b) := runU_len mono_A _ (by rw [List.length_map]; exact Nat.le_refl _)
/-- the law's, from the ascending names, for as many turns as there are variables -/
def attW (ts : List Tb) (j : Join) (A : List Nat) (i : Nat) (b : List Str) : List Str := runU (A.map (ruleA j b (clF ts j A i b))) (setF (varsF j.2)).length ((setF (allV j b i)).filter fun x => !memT x (clF ts j A i b))
theorem attW_eq : attW ts j A i b = attF ts j A i b := by
  refine setF_of (runU_asc ((setF_asc _).filter _) _) fun x => ?_
  refine runU_same mono_A (fun y => ?_) (runU_names (V := setF (varsF j.2)) mono_A (fun r hr y hy => ?_) (fun y hy => ?_) (Nat.le_refl _)) attL_closed x
  · unfold opn
    rw [List.mem_filter, List.mem_filter, setF_mem]
  · obtain ⟨o, _, rfl⟩ := List.mem_map.mp hr
    exact setF_mem.mpr (allV_vars o y (mem_opn.mp hy).1).1
  · exact setF_mem.mpr (allV_vars i y (setF_mem.mp (List.mem_filter.mp hy).1)).1
theorem attF_vars : ∀ x ∈ attF ts j A i b, x ∈ varsF j.2 ∧ x ∉ b ∧ x ∉ clF ts j A i b := by
  have h : Sub (attL ts j A i b) ((varsF j.2).filter fun x => !memT x b && !memT x (clF ts j A i b)) := by
    have key : ∀ o, Sub (opn j b (clF ts j A i b) o) ((varsF j.2).filter fun x => !memT x b && !memT x (clF ts j A i b)) := fun o x hx => by
      obtain ⟨h1, h2⟩ := mem_opn.mp hx
      obtain ⟨h3, h4⟩ := allV_vars o x h1
      exact List.mem_filter.mpr ⟨h3, by rw [memT_no h4, memT_no h2]; rfl⟩
    refine runU_least mono_A (fun r hr _ => ?_) (key i) _
    obtain ⟨o, _, rfl⟩ := List.mem_map.mp hr
    exact key o
  intro x hx
  obtain ⟨h1, h2⟩ := List.mem_filter.mp (h x (setF_mem.mp hx))
  rw [Bool.and_eq_true, Bool.not_eq_true', Bool.not_eq_true'] at h2
  exact ⟨h1, (fun z => by rw [memT_yes z] at h2; cases h2.1), fun z => by rw [memT_yes z] at h2; cases h2.2⟩
/-- the law looks from the other side -/
theorem atk_side (o : Nat) : ((allV j b o).any fun x => memT x (attF ts j A i b)) = (attF ts j A i b).any fun x => memT (Term.var x) (atA j o).2 := by
  rw [Bool.eq_iff_iff, List.any_eq_true, List.any_eq_true]
  constructor
  · rintro ⟨x, hx, e⟩
    exact ⟨x, memT_iff.mp e, memT_yes (mem_freeV.mp hx).1⟩
  · rintro ⟨x, hx, e⟩
    exact ⟨x, mem_freeV.mpr ⟨memT_iff.mp e, (attF_vars x hx).2.1⟩, memT_yes hx⟩
theorem gt0_any {xs N : List Str} : decide ((0 : Int) < ((xs.filter fun x => memT x N).length : Int)) = xs.any fun x => memT x N := by
  rw [Bool.eq_iff_iff, decide_eq_true_eq, List.any_eq_true]
  constructor
  · intro h
    obtain ⟨x, hx⟩ := List.exists_mem_of_length_pos (show 0 < (xs.filter fun x => memT x N).length by omega)
    obtain ⟨h1, h2⟩ := List.mem_filter.mp hx
    exact ⟨x, h1, h2⟩
  · rintro ⟨x, hx, e⟩
    have := List.length_pos_of_mem (List.mem_filter (p := fun x => memT x N).mpr ⟨hx, e⟩)
    omega
theorem opn_len (o : Nat) : (opn j b C o).length ≤ (allV j b o).length := List.length_filter_le ..
end
theorem Few.opn {ts : List Tb} {j : Join} {b C : List Str} {o : Nat} (h : CjOk ts j) (ho : o < j.2.length) : Few j (DL.opn j b C o) := by
  obtain ⟨f1, f2⟩ := (Few.free (ts := ts) (b := b) h ho).1
  exact ⟨Nat.le_trans (opn_len o) f1, fun x hx => f2 x (mem_opn.mp hx).1⟩
theorem Few.set {j : Join} {L : List Str} (h : Few j L) : Few j (setF L) := ⟨Nat.le_trans (setF_len L) h.1, fun x hx => h.2 x (setF_mem.mp hx)⟩
end DL

/-! DL50: closures that grow and shrink. -/
namespace DL
open PySem PySem.Spec PyProof.Rows L2
section
variable {ts : List Tb} {j : Join} {A B : List Nat} {i : Nat} {b c : List Str}
theorem freeV_more {us : List Term} (h : Sub b c) {x : Str} : x ∈ freeV us b → x ∈ c ∨ x ∈ freeV us c := fun hx => by
  obtain ⟨h1, _⟩ := mem_freeV.mp hx
  by_cases e : x ∈ c
  · exact .inl e
  · exact .inr (mem_freeV.mpr ⟨h1, e⟩)
theorem freeV_less {us : List Term} (h : Sub b c) {x : Str} (hx : x ∈ freeV us c) : x ∈ freeV us b := by
  obtain ⟨h1, h2⟩ := mem_freeV.mp hx
  exact mem_freeV.mpr ⟨h1, fun z => h2 (h x z)⟩
/-- more names are bound -/
theorem clF_bound (h : Sub b c) : ∀ x ∈ clF ts j A i b, x ∈ c ∨ x ∈ clF ts j A i c := by
  obtain ⟨k1, k2⟩ := isCl_iff.mp (clF_closed (ts := ts) (j := j) (A := A) (i := i) (b := c))
  have key : Sub (clF ts j A i b) (c ++ clF ts j A i c) := by
    refine clF_least (isCl_iff.mpr ⟨fun x hx => ?_, fun r hr hc x hx => ?_⟩)
    · rcases freeV_more h hx with e | e
      · exact List.mem_append_left _ e
      · exact List.mem_append_right _ (k1 x e)
    · obtain ⟨o, ho, rfl⟩ := List.mem_map.mp hr
      have hc : (!decide (o = i) && allIn (keyV' ts j b o) (c ++ clF ts j A i c)) = true := hc
      rw [Bool.and_eq_true, allIn_iff] at hc
      have ha := k2 _ (List.mem_map.mpr ⟨o, ho, rfl⟩) (show (!decide (o = i) && allIn (keyV' ts j c o) (clF ts j A i c)) = true by
        rw [Bool.and_eq_true, allIn_iff]
        refine ⟨hc.1, fun y hy => ?_⟩
        rcases List.mem_append.mp (hc.2 y (freeV_less h hy)) with e | e
        · exact absurd e (mem_freeV.mp hy).2
        · exact e)
      rcases freeV_more h hx with e | e
      · exact List.mem_append_left _ e
      · exact List.mem_append_right _ (ha x e)
  exact fun x hx => List.mem_append.mp (key x hx)
/-- fewer atoms -/
theorem clF_atoms (h : ∀ o ∈ B, o ∈ A) : Sub (clF ts j B i b) (clF ts j A i b) := by
  obtain ⟨k1, k2⟩ := isCl_iff.mp (clF_closed (ts := ts) (j := j) (A := A) (i := i) (b := b))
  refine clF_least (isCl_iff.mpr ⟨k1, fun r hr => ?_⟩)
  obtain ⟨o, ho, rfl⟩ := List.mem_map.mp hr
  exact k2 _ (List.mem_map.mpr ⟨o, h o ho, rfl⟩)
theorem opn_bound (h : Sub b c) (o : Nat) : Sub (opn j c (clF ts j A i c) o) (opn j b (clF ts j A i b) o) := fun x hx => by
  obtain ⟨h1, h2⟩ := mem_opn.mp hx
  refine mem_opn.mpr ⟨freeV_less h h1, fun z => ?_⟩
  rcases clF_bound h x z with e | e
  · exact (mem_freeV.mp h1).2 e
  · exact h2 e
theorem attF_bound (h : Sub b c) : Sub (attF ts j A i c) (attF ts j A i b) := fun x hx => by
  have st : Sub (opn j b (clF ts j A i b) i) (attL ts j A i b) := runU_grow _ _ _
  refine setF_mem.mpr (runU_least mono_A (fun r hr hc => ?_) (Sub.trans (opn_bound h i) st) A.length x (setF_mem.mp hx))
  obtain ⟨o, ho, rfl⟩ := List.mem_map.mp hr
  have hc : ((opn j c (clF ts j A i c) o).any fun x => memT x (attL ts j A i b)) = true := hc
  obtain ⟨y, hy, e⟩ := List.any_eq_true.mp hc
  exact Sub.trans (opn_bound h o) (attL_closed _ (List.mem_map.mpr ⟨o, ho, rfl⟩) (List.any_eq_true.mpr ⟨y, opn_bound h o y hy, e⟩))
end
end DL

/-! DL51: sorted(set(xs)) of a tuple of texts. -/
namespace DL
open PySem PySem.Spec PyProof.Rows L2
section
variable {P : Program} {w : World} {A : Around} {E : Value → Shared → Prop} {s : Shared}
set_option maxHeartbeats 3200000 in
theorem call_set_strsT {l : Addr} {items : Array Value} {xs : List Str} {Q : Value → Shared → Prop} (hh : A.handled = none) (hl : s.heap.IsTuple l items) (hi : StrsAre items.toList xs) (hb : xs.length + 1 < scanBound)
    (h : ∀ (h' : Heap) (tk : Nat), SetS w h' s.heap.objs.size (fun j => j ∈ xs) → (∀ b o, s.heap.get? b = some o → h'.get? b = some o) → Q (.ref s.heap.objs.size) { s with heap := h', toks := tk }) :
    wpAny (model P w) A (call (.type "set") [.ref l]) Q E s := by
  have hisz : items.size = xs.length := by rw [← StrsAre.len_eq hi, Array.length_toList]
  obtain ⟨c, tl, hmro⟩ := F.called_set.mro
  have hmade := F.called_set.made
  have hsub := F.called_set.sub
  refine wpAny_call (codeAny_of_tree ?_)
  show wpAny _ _ (callAny (.type "set") _) _ _ _
  refine wpAny_pure ⟨Code.quiet_builtin _ (by decide +kernel), codeAny_builtin F.entry_type_call ?_⟩
  rw [Around.under_plain (weight_type_call_type "set" [.ref l] []) rfl]
  have h1 := F.called_set.notType
  have h2 := F.called_set.canCreate
  have hct := F.typeCall_set_1 (.ref l)
  repeat (any_goals (first | assumption | wp_step))

  refine codeAny_mono (code_set_led1 (.ref l) (E := E) (Q₁ := fun obj s₁ => obj = .ref s.heap.objs.size ∧ s₁ = { s with heap := s.heap.push { cls := .type "set", dict := none, data := .set #[] 0 (.fresh 0 0 (!w.params.followText "set-order")) } }) ⟨rfl, rfl⟩) fun r s₁ hr => ?_
  cases r with
  | error e => exact hr
  | ok fl =>
    cases fl with
    | ret obj =>
      obtain ⟨rfl, rfl⟩ := hr
      have hS : (s.heap.push { cls := .type "set", dict := none, data := .set #[] 0 (.fresh 0 0 (!w.params.followText "set-order")) }).get? s.heap.objs.size = some { cls := .type "set", dict := none, data := .set #[] 0 (.fresh 0 0 (!w.params.followText "set-order")) } := Heap.get?_push_size _ rfl
      have hT : Shared.TypeIs { s with heap := s.heap.push { cls := .type "set", dict := none, data := .set #[] 0 (.fresh 0 0 (!w.params.followText "set-order")) } } (.ref s.heap.objs.size) "set" := ⟨_, hS, rfl⟩
      have hli := F.called_set.init.lookup
      have hbi := F.called_set.init.bind (.ref s.heap.objs.size)
      repeat (any_goals (first | assumption | wp_step))

      refine codeAny_mono (codeAny_call_builtin (R := wants (fun r s₂ => r = .none ∧ ∃ h' tk, s₂ = { s with heap := h', toks := tk } ∧ SetS w h' s.heap.objs.size (fun j => j ∈ xs) ∧
          (∀ b o, s.heap.get? b = some o → h'.get? b = some o)) E) F.called_set.init.plain F.entry_set_init (check_set_init_1 hT ?_)) fun r₂ s₂ hr₂ => ?_
      · obtain ⟨ol, hol, hcl, nl, hdl⟩ := hl
        obtain ⟨ocls, odict, odata, oslots⟩ := ol
        simp only at hcl hdl
        subst hcl; subst hdl
        have hol' : (s.heap.push { cls := .type "set", dict := none, data := .set #[] 0 (.fresh 0 0 (!w.params.followText "set-order")) }).get? l = some { cls := .type "tuple", dict := odict, data := .seq items nl, slots := oslots } := Heap.get?_push_of_some _ hol
        have tset := F.sub_tuple_set
        have tfrz := F.sub_tuple_frozenset
        have tnot : (Value.type "tuple" == Value.type "dict") = false := by decide
        have hl1 : (s.heap.push { cls := .type "set", dict := none, data := .set #[] 0 (.fresh 0 0 (!w.params.followText "set-order")) }).IsTuple l items := ⟨_, hol', rfl, nl, rfl⟩
        unfold Builtin.«set.__init__» noKeywords Builtin.Frozenset.updateFrom
        generalize hPI : pyIter = PI
        wp_walk
        subst hPI

        refine wpAny_pyIter_tuple hl1 ?_
        refine wpAny_bind (wpAny_runValue ?_)
        have hlS : l < s.heap.objs.size := Heap.lt_size hol
        have hh3 : A.in1.in1.in1.handled = none := by simp [hh]
        have hneI : l ≠ (s.heap.push { cls := .type "set", dict := none, data := .set #[] 0 (.fresh 0 0 (!w.params.followText "set-order")) }).objs.size := by
          rw [Heap.size_push]; exact Nat.ne_of_lt (Nat.lt_succ_of_lt hlS)
        have hSf : s.heap.objs.size ∉ [(s.heap.push { cls := .type "set", dict := none, data := .set #[] 0 (.fresh 0 0 (!w.params.followText "set-order")) }).objs.size, l] := by
          rw [Heap.size_push]; simp only [List.mem_cons, List.mem_singleton, List.not_mem_nil, or_false, not_or]
          exact ⟨Nat.ne_of_lt (Nat.lt_succ_self _), Nat.ne_of_gt hlS⟩
        have hval : ∀ (i : Nat) (v : Value), items[i]? = some v → ∃ k t, xs[i]? = some k ∧ v = .str k t := fun i v hv => by
          have hi2 : i < xs.length := by rw [← hisz]; exact (Array.getElem?_eq_some_iff.mp hv).1
          obtain ⟨t, e⟩ := SS.strs_at hi i v (by rw [Array.getElem?_toList]; exact hv)
          refine ⟨xs[i], t, List.getElem?_eq_getElem hi2, ?_⟩
          rw [e, List.getD_eq_getElem?_getD, List.getElem?_eq_getElem hi2] <;> rfl
        refine set_update_strs ((Walks.tuple hh3 _ l hneI items).toS) s.heap.objs.size
          hSf xs hisz hb hval (items.size - 0) 0 _ (by omega) (Nat.zero_le _)
          ⟨⟨_, Heap.get?_push_size _ rfl, rfl, rfl⟩, (hl1.push _)⟩ ?hS0 ?hR
        case hS0 =>
          have hget := Heap.get?_push_of_some { cls := .type "tuple_iterator", data := .fields #[.ref l, .int 0 0] } hS
          have e : (fun j => j ∈ xs.take 0) = fun (_ : Str) => False := funext fun j => by simp
          rw [e]
          exact setS_new_at hget
        case hR =>
          intro s' hm hS'
          obtain ⟨h', g2, d', tk', os'⟩ := s'
          have eg : g2 = s.gens := hm.gens
          have ed : d' = s.drawn := hm.drawn
          have eo : os' = s.os := hm.os
          subst eg; subst ed; subst eo
          show wpAny _ _ _ _ _ _
          refine wpAny_pure ?_
          show wpAny _ _ (ret Value.none) _ _ _
          refine wpAny_pure ⟨rfl, h', tk', rfl, hS', fun b o e => ?_⟩
          have hb0 : b < s.heap.objs.size := Heap.lt_size e
          have hb1 : b ≠ s.heap.objs.size := Nat.ne_of_lt hb0
          have hb2 : b ≠ (s.heap.push { cls := .type "set", dict := none, data := .set #[] 0 (.fresh 0 0 (!w.params.followText "set-order")) }).objs.size := by
            rw [Heap.size_push]; exact Nat.ne_of_lt (Nat.lt_succ_of_lt hb0)
          exact hm.heap b o (by simp only [List.mem_cons, List.mem_singleton, List.not_mem_nil, or_false, not_or]; exact ⟨hb1, hb2⟩) (Heap.get?_push_of_some _ (Heap.get?_push_of_some _ e))

      · cases r₂ with
        | error e => exact hr₂
        | ok fl₂ =>
          cases fl₂ with
          | ret r =>
            obtain ⟨rfl, h', tk, rfl, hS', hk'⟩ := hr₂
            repeat (any_goals (first | assumption | wp_step))
            exact h _ _ hS' hk'
          | _ => exact hr₂.elim
    | _ => exact hr.elim
end
section
variable {X : Cx}
/-- set(xs) of a tuple -/
def rSetST (K : KW) : List V → Hp → VK → Prop := fun vs H Q => ∃ (p : Addr) (xs : List Str), vs = [V.ref p] ∧ SqT K.1 H p (xs.map V.str) ∧ xs.length ≤ 1000 ∧ ∀ a, H a = none → Q (.ref a) (upd H a (SetSO K.2 a xs))
theorem cr_setST (hc : X.calm = true) : CallR X (.type "set") (rSetST (kw X)) := by
  intro pins s σ H vs us Q I r h
  obtain ⟨p, xs, rfl, hs, hl, q⟩ := h
  obtain ⟨its, rv, hli, _⟩ := I.tuple hs
  rw [Vals.ref1 r]
  refine call_set_strsT (items := its.toArray) (I.ok.hd hc) (show s.heap.IsTuple p its.toArray from hli) (xs := xs) (by simpa using rv.strs) (by unfold scanBound; omega) fun h' tk hS hk => ?_
  exact ⟨.ref _, upd H s.heap.objs.size (SetSO X.w s.heap.objs.size xs), I.laid (t' := tk) hk (Nat.le_refl _) (setSO_new hS), rfl, q _ (I.hok.fresh (Nat.le_refl _))⟩
end
section
variable {K : KW} {G H : Hp} {X : Cx} {Z : Wish} {p p2 pos pos2 : Pos} {e : Expr} {u : TAd}
def rSortSetT (K : KW) : List V → Hp → VK → Prop := fun vs H Q => rSetST K vs H fun v H1 => rSortedSetS K.2 [v] H1 Q
def gSortSetT (ws : List W) (Q : W → Prop) : Prop := match ws with
  | [w] => ∃ xs : List Str, w = Ed xs ∧ xs.length ≤ 1000 ∧ Q (.l ((setF xs).map .str))
  | _ => False
theorem cd_sortSetT : CallD K (rSortSetT K) gSortSetT := by
  intro G0 H0 Hx G H σ ρ vs ws Q' Q E r q k
  unfold gSortSetT at q
  split at q
  · obtain ⟨v, rfl, r1⟩ := r.one
    obtain ⟨xs, e1, l, q⟩ := q
    subst e1
    have r1 : RR K H0 Hx G H v (.d (.tuple (xs.map PyData.str))) := r1
    cases r1 with
    | tup hs td z ha =>
      have oks := ha.strOk
      rw [ha.strs] at hs
      refine ⟨_, xs, rfl, E.gh.sqT hs, l, fun b hb => ⟨b, xs, rfl, upd_same, l, fun c hc => ?_⟩⟩
      have u1 : Up G H G (upd H b (SetSO K.2 b xs)) := Up.newH E.gh hb
      have u2 := u1.trans (Up.newH (o := .lst ((setF xs).map V.str)) (E.to u1).gh hc)
      have cn : H c = none := u1.h.back hc
      refine k _ (.l ((setF xs).map .str)) _ _ u2 ⟨c, (setF xs).map V.str, rfl, cn, E.gh.back cn, trivial, upd_same, ?_, IsAll.ofStrs fun y hy => oks y (setF_mem.mp hy)⟩ q
      have := setF_len xs
      rw [List.length_map, sizeLine_eq]; omega
  · exact q.elim
theorem d_sortSetT (hc : X.calm = true) (m1 : X.mg "sorted" = none) (m2 : X.mg "set" = none) (ha : PDA X Z [e] u)
    (g1 : Gl X "sorted" := by rfl) (g2 : Gl X "set" := by rfl) (v1 : bootBuiltins "sorted" = some (.builtin "sorted") := by decide +kernel) (v2 : bootBuiltins "set" = some (.type "set") := by decide +kernel)
    (he : starEach [e] X.env = (false, eval e X.env) :: starEach [] X.env := by rfl) (hpl : (backTo pos2 (starEach [] X.env)).any (·.1) = false := by rfl)
    (he2 : starEach [Expr.Call (.Name "set" p2) [e] [] pos2] X.env = (false, eval (.Call (.Name "set" p2) [e] [] pos2) X.env) :: starEach [] X.env := by rfl) (hpl2 : (backTo pos (starEach [] X.env)).any (·.1) = false := by rfl) :
    PD X Z (.Call (.Name "sorted" p) [.Call (.Name "set" p2) [e] [] pos2] [] pos) (dCB gSortSetT u) := by
  obtain ⟨ts, pa, sa⟩ := ha
  have pe := pe_callB (x := "sorted") (p := p) (pos := pos) (cr_sortedSetS hc) g1 m1 v1 (pa_cons (pe_callTy (x := "set") (p := p2) (pos := pos2) (cr_setST hc) g2 m2 v2 pa (by decide) (by decide) he hpl) pa_nil he2) (by decide) (by decide) he2 hpl2
  have e1 : tCB (rSortedSetS X.w) (tCons (tCB (rSetST (kw X)) ts) tNil) = tCB (rSortSetT (kw X)) ts := rfl
  rw [e1] at pe
  exact ⟨_, pe, snd_cb cd_sortSetT sa⟩
end
end DL

/-! DL52: list(range(n)), xs.remove(k). -/
namespace DL
open PySem PySem.Spec PyProof.Rows L2
section
variable {X : Cx} {Z : Wish} {K : KW} {a : Expr}
/-- list(range(n)) -/
def dLstRg (te : TEd) : TEd := fun ρ Q => te ρ fun w => onI w fun n => -(2 ^ 62) ≤ n ∧ n ≤ 16777216 ∧ Q (.l (rngD 0 n.toNat))
theorem snd_lstRg {ta : TE} {te : TEd} (s1 : Snd K Z ta te) : Snd K Z (tLstRg (tRg1 ta)) (dLstRg te) := by
  intro G0 H0 G H σ ρ Q' Q E gd q k
  refine s1 G0 H0 G H σ ρ _ _ E gd q fun v w G1 H1 u1 r1 q1 => ?_
  obtain ⟨n, rfl, n0, n1, q2⟩ := onI_of r1 q1
  refine ⟨n, rfl, ⟨by omega, by omega, by omega, by omega, by rw [Int.sub_zero]; omega⟩, fun c hc => ?_⟩
  have u2 := u1.trans (Up.newH (o := .lst (rgV 0 n)) (E.to u1).gh hc)
  have cn : H c = none := u1.h.back hc
  have e1 : rgV 0 n = ((List.range n.toNat).map fun i : Nat => (0 + (i : Int))).map V.int := by
    unfold rgV; rw [Int.sub_zero, List.map_map]; rfl
  have e2 : rngD 0 n.toNat = ((List.range n.toNat).map fun i : Nat => (0 + (i : Int))).map PyData.int := by
    unfold rngD; rw [List.map_map]; rfl
  refine k _ (.l (rngD 0 n.toNat)) _ _ u2 ⟨c, rgV 0 n, rfl, cn, (E.to u1).gh.back hc, trivial, upd_same, ?_, ?_⟩ q2
  · rw [rngD_len, sizeLine_eq]; omega
  · rw [e1, e2]; exact IsAll.ofInts _
theorem d_listRg {te : TEd} {p p2 pos pos2 : Pos} (hc : X.calm = true) (m1 : X.mg "list" = none) (m2 : X.mg "range" = none) (ha : PD X Z a te) (g1 : Gl X "list" := by rfl) (g2 : Gl X "range" := by rfl)
    (na : starEach [a] X.env = (false, eval a X.env) :: starEach [] X.env := by rfl) (na2 : starEach [Expr.Call (.Name "range" p2) [a] [] pos2] X.env = (false, eval (.Call (.Name "range" p2) [a] [] pos2) X.env) :: starEach [] X.env := by rfl) :
    PD X Z (.Call (.Name "list" p) [.Call (.Name "range" p2) [a] [] pos2] [] pos) (dLstRg te) := by
  obtain ⟨t1, p1, s1⟩ := ha
  exact ⟨_, pe_listRg hc g1 m1 (prg_1 g2 m2 p1 na) na2, snd_lstRg s1⟩
/-- xs.remove(k) -/
def rRem : V → List V → Hp → VK → Prop := fun x vs H Q => ∃ (l : Addr) (ns : List Int) (k : Int), x = .ref l ∧ vs = [.int k] ∧ H l = some (.lst (ns.map V.int)) ∧ k ∈ ns ∧ Q .non (upd H l (.lst ((ns.erase k).map V.int)))
theorem mt_rem : MtR X "list.remove" rRem := by
  intro pins s σ H x vs v us Q I rx rv h
  obtain ⟨l, ns, k, rfl, rfl, hH, hk, q⟩ := h
  cases rx
  obtain ⟨u, rfl, ru⟩ := rv.one
  obtain ⟨t, rfl⟩ := ru
  obtain ⟨z, its, n, r, hl, e0⟩ := I.lstM hH
  have hi : IntsAre its ns := intsAre_of r
  have heq := eq_isInt k t hi
  have hnl : ns.length = its.length := by rw [← hl, List.length_map]
  have zs : its.toArray.size ≤ sizeLine := by rw [List.size_toArray, ← hl]; exact z
  obtain ⟨j, j1, j2, j3, j4⟩ := first_at hk
  have hj : j < its.length := by omega
  refine call_meets PySem.F.slot_list_remove ⟨_, e0, rfl⟩ PySem.F.entry_list_remove (PySem.F.args_list_remove_2 _ _)
    (MeetsSeq.list_remove l its.toArray n (.int k t) (isInt k) (fun y hy => heq y (by simpa using hy)) j (by rw [List.size_toArray]; exact hj) ((L2.isInt_at k hi j hj).mpr j2) (fun i hi2 hlt => ?hno) zs) ⟨e0, ?_⟩
  case hno =>
    have l3 : i < its.length := by rw [List.size_toArray] at hi2; exact hi2
    show isInt k its[i] = false
    rw [Bool.eq_false_iff]
    exact fun w => j3 i hlt ((L2.isInt_at k hi i l3).mp w)
  have r2 : Vals ((ns.erase k).map V.int) (its.eraseIdx j) := by
    have w := r.eraseIdx j
    rw [map_eraseIdx', j4] at w
    exact w
  refine ⟨.non, _, I.lset (its' := its.eraseIdx j) hH e0 ?_ r2 ?_, rfl, q⟩
  · show its.toArray.eraseIdxIfInBounds j = (its.eraseIdx j).toArray
    rw [List.eraseIdxIfInBounds_toArray]
  · rw [List.length_map]
    have := List.length_erase_le (a := k) (l := ns)
    rw [List.length_map] at z
    omega
def sRem (j : Nat) (u : TAd) : TSd := fun D ρ => onL ρ j fun xs => u ρ fun ws => match ws with
  | [.d (.int k)] => ∃ ns : List Int, xs = ns.map .int ∧ k ∈ ns ∧ D.nx (ρ.set j (some (.l ((ns.erase k).map .int))))
  | _ => False
theorem snd_rem {i : Nat} {us : TA} {u : TAd} (s1 : SndA K Z us u) : SndS K Z (tDrop (tBM K "list" rRem (tVar i) us)) (sRem i u) := by
  intro G0 H0 G H σ ρ D' D E gd h n r b c
  obtain ⟨xs, e1, h⟩ := onL_of h
  obtain ⟨p, vs, hp, hv, z, al⟩ := own_at E e1
  refine ⟨.ref p, hp, .inl ⟨rfl, vs, SqL.of hv⟩, ?_⟩
  refine s1 G0 H0 G H σ ρ _ _ E gd h fun as ws G1 H1 u1 r1 q1 => ?_
  split at q1
  · obtain ⟨v1, rfl, ra⟩ := r1.one
    cases ra
    obtain ⟨ns, rfl, hk, q⟩ := q1
    have uf := frzAll_up u1
    rw [al.ints] at hv
    refine ⟨p, ns, _, rfl, rfl, u1.h _ _ hv, hk, n _ _ _ _ ((E.to uf).mut (gx_some e1) hp ?_ (IsAll.ofInts _)) q⟩
    have := List.length_erase_le (a := ‹Int›) (l := ns)
    rw [List.length_map] at z ⊢
    omega
  · exact q1.elim
theorem ds_rem {x : Str} {pn apos cpos pos : Pos} (j : Nat) {u : TAd} (hu : PDA X Z [a] u) (hN : X.N[j]? = some x := by rfl) (hv : Vis X.env.scope x := by first | exact Or.inl rfl | exact Or.inr (Or.inl rfl) | exact Or.inr (Or.inr rfl)) (hd : (x == ("__debug__" : Str)) = false := by decide) (hcd : (x == ("__classdict__" : Str)) = false := by decide)
    (hbase : attributeBase (.Name x pn) "remove" X.env (eval (.Name x pn) X.env) = eval (.Name x pn) X.env := by rfl)
    (hfew : ((backTo cpos (starEach [a] X.env)).all (fun x => !x.1) && (backToKw cpos (keywordEach [] X.env)).all (fun x => x.1.isSome) && decide ([a].length + ([] : List Keyword).length + (if ([] : List Keyword).isEmpty then 0 else 1) < 30)) = true := by rfl)
    (hline : (apos.endLine == cpos.line) = true := by rfl) (hst : starEach [a] X.env = (false, eval a X.env) :: starEach [] X.env := by rfl) (hplain : (backTo cpos (starEach [] X.env)).any (·.1) = false := by rfl)
    (hs : swapsWith (.Call (.Attribute (.Name x pn) "remove" apos) [a] [] cpos) none pos.line X.env = pure false := by rfl) :
    PDS X Z (.Expr (.Call (.Attribute (.Name x pn) "remove" apos) [a] [] cpos) pos) (sRem j u) := by
  obtain ⟨t1, p1, s1⟩ := hu
  exact ⟨_, ps_expr (pe_bm PySem.F.plainAttrs_list PySem.F.slot_list_remove PySem.F.type_list_remove mt_rem (pe_var hN hv hd hcd) p1 hbase hfew hline hst hplain) hs, snd_rem s1⟩
end
end DL

/-! DL53: atoms taken one after another, plans. -/
namespace DL
open PySem PySem.Spec PyProof.Rows L2
section
variable (ts : List Tb) (j : Join)
/-- the atoms that no atom attacks -/
def freeA (A : List Nat) (b : List Str) : List Nat := A.filter fun i => !memT i ((atksF ts j A b).map Prod.snd)
/-- from the atoms left, the names bound, the atoms taken -/
def takeF : Nat → List Nat → List Str → List Nat → List Nat × List Nat × List Str
  | 0, L, b, T => (T, L, b)
  | n + 1, L, b, T => match freeA ts j L b with
    | [] => (T, L, b)
    | i :: _ => takeF n (L.erase i) (setF (b ++ freeV (atA j i).2 b)) (T ++ [i])
def takenF : List Nat × List Nat × List Str := takeF ts j j.2.length (List.range j.2.length) [] []
/-- three things as one -/
def triD (r : List Nat × List Nat × List Str) : PyData := .tuple [Enc.d r.1, Enc.d r.2.1, Enc.d r.2.2]
end
section
variable {ts : List Tb} {j : Join} {L T : List Nat} {b : List Str}
theorem freeA_mem {i : Nat} {r : List Nat} (h : freeA ts j L b = i :: r) : i ∈ L := (List.mem_filter.mp (show i ∈ freeA ts j L b by rw [h]; exact List.mem_cons_self)).1
theorem takeF_nil {n : Nat} (h : freeA ts j L b = []) : takeF ts j n L b T = (T, L, b) := by
  cases n with
  | zero => rfl
  | succ n => unfold takeF; rw [h]
theorem takeF_cons {n : Nat} {i : Nat} {r : List Nat} (h : freeA ts j L b = i :: r) (hn : L.length = n) : takeF ts j n L b T = takeF ts j (L.erase i).length (L.erase i) (setF (b ++ freeV (atA j i).2 b)) (T ++ [i]) := by
  have hi := freeA_mem h
  cases n with
  | zero =>
    rw [List.length_eq_zero_iff.mp hn] at hi
    cases hi
  | succ n =>
    have : (L.erase i).length = n := by rw [List.length_erase_of_mem hi]; omega
    rw [this]
    show (match freeA ts j L b with
    | [] => (T, L, b)
    | i :: _ => takeF ts j n (L.erase i) (setF (b ++ freeV (atA j i).2 b)) (T ++ [i])) = _
    rw [h]
/-- where the taking stands -/
structure TakeI (ts : List Tb) (j : Join) (L : List Nat) (b : List Str) (T : List Nat) : Prop where
  eq : takeF ts j L.length L b T = takenF ts j
  at_ : ∀ o ∈ L, o < j.2.length
  len : L.length ≤ j.2.length
  sum : T.length + L.length = j.2.length
  few : Few j b
  nd : L.Nodup
theorem TakeI.start : TakeI ts j (List.range j.2.length) [] [] := ⟨by rw [List.length_range]; rfl, fun o h => List.mem_range.mp h, by rw [List.length_range]; exact Nat.le_refl _, by rw [List.length_range]; exact Nat.zero_add _, ⟨Nat.zero_le _, fun x hx => absurd hx (by simp)⟩, List.nodup_range⟩
theorem TakeI.step {i : Nat} {r : List Nat} (h : CjOk ts j) (s : TakeI ts j L b T) (e : freeA ts j L b = i :: r) : TakeI ts j (L.erase i) (setF (b ++ freeV (atA j i).2 b)) (T ++ [i]) := by
  have hi := freeA_mem e
  have hl := List.length_erase_of_mem hi
  have hp := List.length_pos_of_mem hi
  have h1 := s.len
  have h2 := s.sum
  refine ⟨by rw [← takeF_cons e rfl]; exact s.eq, fun o ho => s.at_ o (List.mem_of_mem_erase ho), by omega, by rw [List.length_append, List.length_singleton]; omega, ⟨?_, ?_⟩, s.nd.erase i⟩
  · refine Nat.le_trans (setF_le (ys := varsF j.2) fun x hx => ?_) h.vars
    rcases List.mem_append.mp hx with z | z
    · exact s.few.2 x z
    · exact (allV_vars i x z).1
  · intro x hx
    rcases List.mem_append.mp (setF_mem.mp hx) with z | z
    · exact s.few.2 x z
    · exact (allV_vars i x z).1
/-- the plan, or none -/
def planV (r : List Nat × List Nat × List Str) : PyData := if r.2.1 = [] then Enc.d r.1 else .none
theorem freeV_same {us : List Term} {c : List Str} (h : ∀ x, x ∈ b ↔ x ∈ c) : freeV us b = freeV us c := by
  unfold freeV
  refine List.filter_congr fun x _ => ?_
  by_cases e : x ∈ b
  · rw [memT_yes e, memT_yes ((h x).mp e)]
  · rw [memT_no e, memT_no fun z => e ((h x).mpr z)]
theorem atksF_same {c : List Str} (h : ∀ x, x ∈ b ↔ x ∈ c) : atksF ts j L b = atksF ts j L c := by
  have e : ∀ us, freeV us b = freeV us c := fun us => freeV_same h
  have e1 : ∀ o, allV j b o = allV j c o := fun o => e _
  have e2 : ∀ o, keyV' ts j b o = keyV' ts j c o := fun o => e _
  have e3 : ∀ i o, ruleC ts j i b o = ruleC ts j i c o := fun i o => by unfold ruleC; simp only [e1, e2]
  have e4 : ∀ i, clF ts j L i b = clF ts j L i c := fun i => by
    unfold clF clL
    rw [e2, show ruleC ts j i b = ruleC ts j i c from funext (e3 i)]
  have e5 : ∀ C o, opn j b C o = opn j c C o := fun C o => by unfold opn; rw [e1]
  have e6 : ∀ C, ruleA j b C = ruleA j c C := fun C => funext fun o => by unfold ruleA; simp only [e5]
  have e7 : ∀ i, attF ts j L i b = attF ts j L i c := fun i => by unfold attF attL; rw [e4, e6, e5]
  have e8 : ∀ i, atkB ts j L i b = atkB ts j L i c := fun i => funext fun o => by unfold atkB; rw [e7]
  unfold atksF
  simp only [e8]
theorem freeA_same {c : List Str} (h : ∀ x, x ∈ b ↔ x ∈ c) : freeA ts j L b = freeA ts j L c := by unfold freeA; rw [atksF_same h]
theorem TakeI.stop (s : TakeI ts j L b T) (e : freeA ts j L b = []) : takenF ts j = (T, L, b) := by rw [← s.eq, takeF_nil e]
theorem TakeI.full (s : TakeI ts j L b T) (e : T.length = j.2.length) : planV (takenF ts j) = Enc.d T := by
  have h := s.sum
  have e2 : L = [] := List.length_eq_zero_iff.mp (by omega)
  rw [s.stop (by rw [e2]; rfl), e2]
  rfl
theorem TakeI.none (s : TakeI ts j L b T) (h : T.length < j.2.length) (e : freeA ts j L b = []) : planV (takenF ts j) = .none := by
  have h2 := s.sum
  rw [s.stop e]
  unfold planV
  exact if_neg fun z => by
    have z : L = [] := z
    rw [z] at h2
    simp at h2
    omega
theorem erase_filter {i : Nat} (h : L.Nodup) : L.filter (fun o => !decide (o = i)) = L.erase i := by
  rw [h.erase_eq_filter]
  refine List.filter_congr fun x _ => ?_
  by_cases e : x = i
  · rw [decide_eq_true e, e]; simp
  · rw [decide_eq_false e]; simp [e]
end
theorem noPlan {ts : List Tb} {j : Join} (h : ¬ (j.2.map (fun x : Atom => x.1)).Nodup) : (if (j.2.map (fun x : Atom => x.1)).Nodup then planV (takenF ts j) else PyData.none) = .none := if_neg h
/-- two atoms of one table -/
theorem twice {a b : Atom} {l k : List Atom} (hb : b.1 = a.1) (hl : a ∈ l) (p : k.Perm (b :: l)) : ¬ (k.map (fun x : Atom => x.1)).Nodup := fun q => by
  have q := (p.map (fun x : Atom => x.1)).nodup_iff.mp q
  rw [List.map_cons, List.nodup_cons] at q
  exact q.1 (List.mem_map.mpr ⟨a, hl, hb.symm⟩)
theorem ins_perm {b : Atom} {l : List Atom} {k : Nat} : (l.take k ++ [b] ++ l.drop k).Perm (b :: l) := by
  have h : (l.take k ++ b :: l.drop k).Perm (b :: (l.take k ++ l.drop k)) := List.perm_middle
  rw [List.take_append_drop] at h
  rw [List.append_assoc]
  exact h
theorem insD_enc {α : Type} [DecidableEq α] [Enc α] {xs : List α} {k : Nat} {a : α} : insD (xs.map Enc.d) (k : Int) (Enc.d a) = (xs.take k ++ [a] ++ xs.drop k).map Enc.d := by
  unfold insD
  rw [Int.toNat_natCast, List.map_append, List.map_append, List.map_take, List.map_drop]
  rfl
theorem same_plan {r : List Nat × List Nat × List Str} {Q : W → Prop} (h : Q (.d (.bool true))) : sameR 12 (argW (.d (planV r))) (argW (.d (planV r))) Q := by
  unfold planV
  split
  · rw [argW_enc]
    exact sameR_enc (by rw [decide_eq_true rfl]; exact h)
  · rw [argW_n]
    exact sameR_none h
theorem exN {P : En → Prop} {B : (En → Prop) → Prop} (h : B P) : ∃ N : En → Prop, (∀ ρ2, N ρ2 → P ρ2) ∧ B N := ⟨P, fun _ h => h, h⟩
theorem erase_cast {L : List Nat} {i : Nat} : ((L.map fun n : Nat => (n : Int)).erase (i : Int)).map PyData.int = (L.erase i).map Enc.d := by
  induction L with
  | nil => rfl
  | cons x L ih =>
    rw [List.map_cons]
    by_cases e : x = i
    · subst e
      rw [List.erase_cons_head, List.erase_cons_head, List.map_map]
      rfl
    · rw [List.erase_cons_tail (by rw [beq_iff_eq]; exact fun z => e (by omega)), List.erase_cons_tail (by rw [beq_iff_eq]; exact e), List.map_cons, ih]
      rfl
theorem rngD_enc {n : Nat} : rngD 0 n = (List.range n).map (Enc.d (α := Nat)) := by
  unfold rngD
  refine List.map_congr_left fun i _ => ?_
  rw [Int.zero_add]
  rfl
end DL

/-! DL54: chains of attacks, rings. -/
namespace DL
open PySem PySem.Spec PyProof.Rows L2
section
variable {ts : List Tb} {j : Join} {L : List Nat} {b : List Str}
theorem atkB_iff {i o : Nat} : atkB ts j L i b o = true ↔ o ≠ i ∧ ∃ x, x ∈ allV j b o ∧ x ∈ attF ts j L i b := by
  unfold atkB
  rw [← atk_side, Bool.and_eq_true, Bool.not_eq_true', decide_eq_false_iff_not, List.any_eq_true]
  exact and_congr_right fun _ => ⟨fun ⟨x, h1, h2⟩ => ⟨x, h1, memT_iff.mp h2⟩, fun ⟨x, h1, h2⟩ => ⟨x, h1, memT_yes h2⟩⟩
theorem att_closed {i o : Nat} (ho : o ∈ L) {y : Str} (h1 : y ∈ opn j b (clF ts j L i b) o) (h2 : y ∈ attF ts j L i b) : Sub (opn j b (clF ts j L i b) o) (attF ts j L i b) := fun x hx =>
  setF_mem.mpr (attL_closed _ (List.mem_map.mpr ⟨o, ho, rfl⟩) (List.any_eq_true.mpr ⟨y, h1, memT_yes (setF_mem.mp h2)⟩) x hx)
theorem att_start {i : Nat} : Sub (opn j b (clF ts j L i b) i) (attF ts j L i b) := fun x hx => setF_mem.mpr (runU_grow _ _ _ x hx)
theorem att_least {i : Nat} {M : List Str} (h1 : Sub (opn j b (clF ts j L i b) i) M) (h2 : ∀ o ∈ L, ∀ y ∈ opn j b (clF ts j L i b) o, y ∈ M → Sub (opn j b (clF ts j L i b) o) M) : Sub (attF ts j L i b) M := fun x hx => by
  refine runU_least mono_A (fun r hr hc => ?_) h1 L.length x (setF_mem.mp hx)
  obtain ⟨o, ho, rfl⟩ := List.mem_map.mp hr
  obtain ⟨y, hy, e⟩ := List.any_eq_true.mp hc
  exact h2 o ho y hy (memT_iff.mp e)
theorem key_all {o : Nat} : Sub (keyV' ts j b o) (allV j b o) := by
  unfold keyV' allV keyT
  exact sub_take _ _
theorem cl_closed {i o : Nat} (ho : o ∈ L) (ne : o ≠ i) (h : Sub (keyV' ts j b o) (clF ts j L i b)) : Sub (allV j b o) (clF ts j L i b) :=
  (isCl_iff.mp clF_closed).2 _ (List.mem_map.mpr ⟨o, ho, rfl⟩) (show (!decide (o = i) && allIn (keyV' ts j b o) (clF ts j L i b)) = true by
    rw [Bool.and_eq_true, allIn_iff, decide_eq_false ne]; exact ⟨rfl, h⟩)
theorem chain {f g h : Nat} (hf : f ∈ L) (hg : g ∈ L) (a1 : atkB ts j L f b g = true) (a2 : atkB ts j L g b h = true) (hne : h ≠ f) : atkB ts j L f b h = true ∨ atkB ts j L g b f = true := by
  by_cases gf : atkB ts j L g b f = true
  · exact .inr gf
  refine .inl ?_
  obtain ⟨ne1, xg, xg1, xg2⟩ := atkB_iff.mp a1
  obtain ⟨ne2, xh, xh1, xh2⟩ := atkB_iff.mp a2
  have nF : ∀ x ∈ allV j b f, x ∉ attF ts j L g b := fun x h1 h2 => gf (atkB_iff.mpr ⟨fun e => ne1 e.symm, x, h1, h2⟩)
  have no : ∀ {i : Nat} {x : Str}, x ∈ attF ts j L i b → x ∉ clF ts j L i b := fun hx => (attF_vars _ hx).2.2
  have kG : ¬ Sub (keyV' ts j b g) (clF ts j L f b) := fun z => no xg2 (cl_closed hg ne1 z xg xg1)
  have disj : ∀ y ∈ clF ts j L f b, y ∉ attF ts j L g b := by
    have key : Sub (clF ts j L f b) ((clF ts j L f b).filter fun y => !memT y (attF ts j L g b)) := by
      refine clF_least (isCl_iff.mpr ⟨fun y hy => List.mem_filter.mpr ⟨(isCl_iff.mp clF_closed).1 y hy, by rw [memT_no (nF y (key_all y hy))]; rfl⟩, fun r hr hc => ?_⟩)
      obtain ⟨o, ho, rfl⟩ := List.mem_map.mp hr
      have hc : (!decide (o = f) && allIn (keyV' ts j b o) ((clF ts j L f b).filter fun y => !memT y (attF ts j L g b))) = true := hc
      rw [Bool.and_eq_true, allIn_iff, Bool.not_eq_true', decide_eq_false_iff_not] at hc
      obtain ⟨nf, hk⟩ := hc
      have kf : Sub (keyV' ts j b o) (clF ts j L f b) := fun z hz => (List.mem_filter.mp (hk z hz)).1
      have kn : ∀ z ∈ keyV' ts j b o, z ∉ attF ts j L g b := fun z hz q => by
        have := (List.mem_filter.mp (hk z hz)).2
        rw [memT_yes q] at this
        cases this
      have og : o ≠ g := fun e => kG (e ▸ kf)
      refine fun y hy => List.mem_filter.mpr ⟨cl_closed ho nf kf y hy, ?_⟩
      have yn : y ∉ attF ts j L g b := fun q => by
        have st := att_closed ho (mem_opn.mpr ⟨hy, no q⟩) q
        refine no q (cl_closed ho og (fun z hz => ?_) y hy)
        by_cases e : z ∈ clF ts j L g b
        · exact e
        · exact absurd (st z (mem_opn.mpr ⟨key_all z hz, e⟩)) (kn z hz)
      rw [memT_no yn]; rfl
    intro y hy q
    have := (List.mem_filter.mp (key y hy)).2
    rw [memT_yes q] at this
    cases this
  have sub : Sub (attF ts j L g b) ((attF ts j L g b).filter fun y => memT y (attF ts j L f b)) := by
    refine att_least (fun x hx => ?_) fun o ho y hy hm x hx => ?_
    · have xn := att_start x hx
      exact List.mem_filter.mpr ⟨xn, memT_yes (att_closed hg (mem_opn.mpr ⟨xg1, no xg2⟩) xg2 x (mem_opn.mpr ⟨(mem_opn.mp hx).1, fun z => disj x z xn⟩))⟩
    · obtain ⟨yg, yf⟩ := List.mem_filter.mp hm
      have yf := memT_iff.mp yf
      have xn := att_closed ho hy yg x hx
      exact List.mem_filter.mpr ⟨xn, memT_yes (att_closed ho (mem_opn.mpr ⟨(mem_opn.mp hy).1, no yf⟩) yf x (mem_opn.mpr ⟨(mem_opn.mp hx).1, fun z => disj x z xn⟩))⟩
  exact atkB_iff.mpr ⟨hne, xh, xh1, memT_iff.mp (List.mem_filter.mp (sub xh xh2)).2⟩
/-- a finite order has a least thing -/
theorem least_of {r : Nat → Nat → Prop} : ∀ {L : List Nat}, L ≠ [] → (∀ x ∈ L, ¬ r x x) → (∀ x ∈ L, ∀ y ∈ L, ∀ z ∈ L, r x y → r y z → r x z) → ∃ m ∈ L, ∀ k ∈ L, ¬ r k m
  | [], h, _, _ => absurd rfl h
  | x :: L, _, ir, tr => by
    by_cases e : L = []
    · subst e
      refine ⟨x, List.mem_cons_self, fun k hk => ?_⟩
      rw [List.mem_singleton.mp hk]
      exact ir x List.mem_cons_self
    obtain ⟨m, hm, hk⟩ := least_of (r := r) e (fun y hy => ir y (List.mem_cons_of_mem _ hy)) fun a ha c hc d hd => tr a (List.mem_cons_of_mem _ ha) c (List.mem_cons_of_mem _ hc) d (List.mem_cons_of_mem _ hd)
    by_cases q : r x m
    · refine ⟨x, List.mem_cons_self, fun k hk2 z => ?_⟩
      rcases List.mem_cons.mp hk2 with e | hk2
      · rw [e] at z; exact ir x List.mem_cons_self z
      · exact hk k hk2 (tr k (List.mem_cons_of_mem _ hk2) x List.mem_cons_self m (List.mem_cons_of_mem _ hm) z q)
    · refine ⟨m, List.mem_cons_of_mem _ hm, fun k hk2 z => ?_⟩
      rcases List.mem_cons.mp hk2 with e | hk2
      · rw [e] at z; exact q z
      · exact hk k hk2 z
theorem mem_atksF {p : Nat × Nat} : p ∈ atksF ts j L b ↔ p.1 ∈ L ∧ p.2 ∈ L ∧ atkB ts j L p.1 b p.2 = true := by
  unfold atksF
  rw [List.mem_flatMap]
  constructor
  · rintro ⟨i, hi, h⟩
    obtain ⟨o, ho, rfl⟩ := List.mem_map.mp h
    exact ⟨hi, (List.mem_filter.mp ho).1, (List.mem_filter.mp ho).2⟩
  · rintro ⟨h1, h2, h3⟩
    exact ⟨p.1, h1, List.mem_map.mpr ⟨p.2, List.mem_filter.mpr ⟨h2, h3⟩, rfl⟩⟩
/-- where every atom is attacked, two attack each other -/
theorem ring_is (hL : L ≠ []) (h : freeA ts j L b = []) : ∃ p ∈ atksF ts j L b, p.1 < p.2 ∧ (p.2, p.1) ∈ atksF ts j L b := by
  refine Classical.byContradiction fun no => ?_
  have no2 : ∀ x ∈ L, ∀ y ∈ L, atkB ts j L x b y = true → atkB ts j L y b x = true → False := fun x hx y hy h1 h2 => by
    have ne := (atkB_iff.mp h1).1
    rcases Nat.lt_or_gt_of_ne ne with q | q
    · exact no ⟨(y, x), mem_atksF.mpr ⟨hy, hx, h2⟩, q, mem_atksF.mpr ⟨hx, hy, h1⟩⟩
    · exact no ⟨(x, y), mem_atksF.mpr ⟨hx, hy, h1⟩, q, mem_atksF.mpr ⟨hy, hx, h2⟩⟩
  obtain ⟨m, hm, hk⟩ := least_of (r := fun x y => atkB ts j L x b y = true) hL (fun x _ q => (atkB_iff.mp q).1 rfl) fun x hx y hy z hz h1 h2 => by
    have ne : z ≠ x := fun e => no2 x hx y hy h1 (e ▸ h2)
    exact (chain hx hy h1 h2 ne).resolve_right fun q => no2 x hx y hy h1 q
  have : m ∈ freeA ts j L b := by
    refine List.mem_filter.mpr ⟨hm, ?_⟩
    rw [memT_no fun q => ?_]
    · rfl
    · obtain ⟨p, hp, e⟩ := List.mem_map.mp q
      obtain ⟨p1, p2, p3⟩ := mem_atksF.mp hp
      exact hk p.1 p1 (e ▸ p3)
  rw [h] at this
  cases this
end
end DL

/-! DL55: where the taking ends. -/
namespace DL
open PySem PySem.Spec PyProof.Rows L2
section
variable {ts : List Tb} {j : Join} {L T : List Nat} {b : List Str}
structure TakeJ (ts : List Tb) (j : Join) (L : List Nat) (b : List Str) (T : List Nat) : Prop where
  i : TakeI ts j L b T
  sub : L.Sublist (List.range j.2.length)
  ba : Asc b
  bm : ∀ x, x ∈ b ↔ ∃ k, k < j.2.length ∧ k ∉ L ∧ .var x ∈ (atA j k).2
theorem TakeJ.start : TakeJ ts j (List.range j.2.length) [] [] := ⟨TakeI.start, List.Sublist.refl _, List.Pairwise.nil, fun x => ⟨fun h => absurd h (by simp), fun ⟨k, h1, h2, _⟩ => absurd (List.mem_range.mpr h1) h2⟩⟩
theorem TakeJ.step {i : Nat} {r : List Nat} (h : CjOk ts j) (s : TakeJ ts j L b T) (e : freeA ts j L b = i :: r) : TakeJ ts j (L.erase i) (setF (b ++ freeV (atA j i).2 b)) (T ++ [i]) := by
  have hi := freeA_mem e
  refine ⟨s.i.step h e, (List.erase_sublist ..).trans s.sub, setF_asc _, fun x => ?_⟩
  rw [setF_mem, List.mem_append, mem_freeV, s.bm]
  constructor
  · rintro (⟨k, h1, h2, h3⟩ | ⟨h1, _⟩)
    · exact ⟨k, h1, fun z => h2 (List.mem_of_mem_erase z), h3⟩
    · exact ⟨i, s.i.at_ i hi, fun z => (s.i.nd.mem_erase_iff.mp z).1 rfl, h1⟩
  · rintro ⟨k, h1, h2, h3⟩
    by_cases q : k ∈ L
    · have ek : k = i := Classical.byContradiction fun ne => h2 (s.i.nd.mem_erase_iff.mpr ⟨ne, q⟩)
      subst ek
      by_cases z : ∃ k2, k2 < j.2.length ∧ k2 ∉ L ∧ .var x ∈ (atA j k2).2
      · exact .inl z
      · exact .inr ⟨h3, z⟩
    · exact .inl ⟨k, h1, q, h3⟩
theorem taken_is (h : CjOk ts j) : ∃ T L b, takenF ts j = (T, L, b) ∧ TakeJ ts j L b T ∧ freeA ts j L b = [] := by
  have key : ∀ (n : Nat) (L : List Nat) (b : List Str) (T : List Nat), L.length = n → TakeJ ts j L b T → ∃ T L b, takenF ts j = (T, L, b) ∧ TakeJ ts j L b T ∧ freeA ts j L b = [] := fun n => by
    induction n with
    | zero =>
      intro L b T hl s
      have e : L = [] := List.length_eq_zero_iff.mp hl
      have ef : freeA ts j L b = [] := by rw [e]; rfl
      exact ⟨T, L, b, s.i.stop ef, s, ef⟩
    | succ n ih =>
      intro L b T hl s
      cases e : freeA ts j L b with
      | nil => exact ⟨T, L, b, s.i.stop e, s, e⟩
      | cons i r =>
        refine ih _ _ _ ?_ (s.step h e)
        rw [List.length_erase_of_mem (freeA_mem e)]
        omega
  exact key _ _ _ _ rfl TakeJ.start
theorem TakeJ.filt (s : TakeJ ts j L b T) : (List.range j.2.length).filter (fun k => memT k L) = L := by
  refine asc_unique ((range_asc _).filter _) ((range_asc _).sublist s.sub) fun k => ?_
  rw [List.mem_filter, List.mem_range, memT_iff]
  exact ⟨fun h => h.2, fun h => ⟨s.i.at_ k h, h⟩⟩
/-- the names of the atoms that are not in L, atom after atom -/
def goneF (j : Join) (L : List Nat) (ks : List Nat) : List Str := (ks.filter fun k => !memT k L).flatMap fun k => freeV (atA j k).2 []
theorem TakeJ.names (s : TakeJ ts j L b T) : ∀ x, x ∈ goneF j L (List.range j.2.length) ↔ x ∈ b := fun x => by
  rw [s.bm]
  unfold goneF
  rw [List.mem_flatMap]
  constructor
  · rintro ⟨k, hk, hx⟩
    obtain ⟨h1, h2⟩ := List.mem_filter.mp hk
    exact ⟨k, List.mem_range.mp h1, (fun z => by rw [memT_yes z] at h2; cases h2), (mem_freeV.mp hx).1⟩
  · rintro ⟨k, h1, h2, h3⟩
    exact ⟨k, List.mem_filter.mpr ⟨List.mem_range.mpr h1, by rw [memT_no h2]; rfl⟩, mem_freeV.mpr ⟨h3, by simp⟩⟩
theorem TakeJ.namesF (s : TakeJ ts j L b T) : setF (goneF j L (List.range j.2.length)) = b := (setF_of s.ba fun k => (s.names k).symm).symm
theorem goneF_succ {n : Nat} : goneF j L (List.range (n + 1)) = goneF j L (List.range n) ++ (if n ∈ L then [] else freeV (atA j n).2 []) := by
  unfold goneF
  rw [List.range_succ, List.filter_append, List.flatMap_append]
  congr 1
  by_cases h : n ∈ L
  · rw [if_pos h, List.filter_cons, if_neg (by rw [memT_yes h]; decide)]; rfl
  · rw [if_neg h, List.filter_cons, if_pos (by rw [memT_no h]; rfl)]
    simp
/-- two that attack each other -/
def twoB (ps : List (Nat × Nat)) (p : Nat × Nat) : Bool := decide (p.1 < p.2) && memT (p.2, p.1) ps
def ringD (L : List Nat) (b : List Str) (p : Nat × Nat) : PyData := .tuple [Enc.d L, Enc.d b, Enc.d p.1, Enc.d p.2]
def ringV (ts : List Tb) (j : Join) (r : List Nat × List Nat × List Str) : PyData := match (atksF ts j r.2.1 r.2.2).find? (twoB (atksF ts j r.2.1 r.2.2)) with
  | some p => ringD r.2.1 r.2.2 p
  | none => .none
/-- a ring there is, or all is taken -/
theorem ring_cases (h : CjOk ts j) : ∃ T L b, takenF ts j = (T, L, b) ∧ TakeJ ts j L b T ∧ freeA ts j L b = [] ∧
    ((L = [] ∧ ringV ts j (T, L, b) = .none) ∨ (L ≠ [] ∧ ∃ p, ringV ts j (T, L, b) = ringD L b p ∧ p.1 < p.2 ∧ p ∈ atksF ts j L b ∧ (p.2, p.1) ∈ atksF ts j L b)) := by
  obtain ⟨T, L, b, e, s, f⟩ := taken_is h
  refine ⟨T, L, b, e, s, f, ?_⟩
  by_cases hL : L = []
  · refine .inl ⟨hL, ?_⟩
    subst hL
    rfl
  · refine .inr ⟨hL, ?_⟩
    obtain ⟨q, hq, q1, q2⟩ := ring_is hL f
    cases ef : (atksF ts j L b).find? (twoB (atksF ts j L b)) with
    | none =>
      have := List.find?_eq_none.mp ef q hq
      exact absurd (show twoB _ q = true by unfold twoB; rw [memT_yes q2, decide_eq_true q1]; rfl) this
    | some p =>
      have h1 := List.find?_some ef
      unfold twoB at h1
      rw [Bool.and_eq_true, decide_eq_true_eq] at h1
      refine ⟨p, ?_, h1.1, List.mem_of_find?_eq_some ef, memT_iff.mp h1.2⟩
      unfold ringV
      rw [ef]
theorem chain_pairs {p q : Nat × Nat} (hp : p ∈ atksF ts j L b) (hq : q ∈ atksF ts j L b) (e : p.2 = q.1) (ne : p.1 ≠ q.2) : (p.1, q.2) ∈ atksF ts j L b ∨ (p.2, p.1) ∈ atksF ts j L b := by
  obtain ⟨p1, p2, p3⟩ := mem_atksF.mp hp
  obtain ⟨q1, q2, q3⟩ := mem_atksF.mp hq
  rw [← e] at q1 q3
  rcases chain p1 p2 p3 q3 (fun z => ne z.symm) with r | r
  · exact .inl (mem_atksF.mpr ⟨p1, q2, r⟩)
  · exact .inr (mem_atksF.mpr ⟨p2, p1, r⟩)
end
end DL

/-! DL56: dict(pairs), pairs a tuple of names and values. -/
namespace DL
open PySem PySem.Spec PyProof.Rows L2
/-- a pair as it stands: its tuple's place, its name, the name's mark, its value, what is known of the value -/
structure PRow where
  a : Addr
  n : Str
  t : Tok
  u : Value
  v : V
section
variable {X : Cx} {pins : List (Addr × Obj)} {s : Shared} {σ : L2.St} {H G : Hp}
theorem pairs_is (I : Inv X pins σ H s) (g : Ex G H) : ∀ {xs : List V} {ps : List (Str × PyData)}, IsAll (kw X) G xs (ps.map fun p => .tuple [.str p.1, p.2]) → ∃ rows : List PRow,
    xs = rows.map (fun r => V.ref r.a) ∧ rows.map (·.n) = ps.map (·.1) ∧ Vals (rows.map (·.v)) (rows.map (·.u)) ∧ IsAll (kw X) G (rows.map (·.v)) (ps.map (·.2)) ∧ (∀ r ∈ rows, okS r.n) ∧
    ∀ r ∈ rows, s.heap.IsTuple r.a #[.str r.n r.t, r.u]
  | [], [], _ => ⟨[], rfl, rfl, .nil, .nil, (fun r h => by cases h), fun r h => by cases h⟩
  | x :: xs, [], h => by cases h
  | [], p :: ps, h => by cases h
  | x :: xs, p :: ps, h => by
    cases h with
    | cons h1 h2 =>
      obtain ⟨rows, e1, e2, e3, e4, e5, e6⟩ := pairs_is I g h2
      obtain ⟨a, vs, rfl, hs, td, z, al⟩ := h1.inTD
      obtain ⟨its, rv, p', _⟩ := I.tuple (g.sqT hs)
      cases al with
      | cons i1 al =>
        cases al with
        | cons i2 al =>
          cases al
          cases i1 with
          | str _ ok =>
            cases rv with
            | cons r1 rv =>
              cases rv with
              | cons r2 rv =>
                cases rv
                obtain ⟨t, rfl⟩ := r1
                refine ⟨⟨a, p.1, t, _, _⟩ :: rows, by rw [e1]; rfl, by rw [List.map_cons, List.map_cons, e2], .cons r2 e3, .cons i2 e4, fun r hr => ?_, fun r hr => ?_⟩
                · rcases List.mem_cons.mp hr with e | hr
                  · rw [e]; exact ok
                  · exact e5 r hr
                · rcases List.mem_cons.mp hr with e | hr
                  · rw [e]; exact p'
                  · exact e6 r hr
/-- dict(pairs) -/
def rDictP (K : KW) : List V → Hp → VK → Prop := fun xs H Q => ∃ (a : Addr) (G : Hp) (ps : List (Str × PyData)), xs = [.ref a] ∧ Ex G H ∧ Is K G (.ref a) (.tuple (ps.map fun p => .tuple [.str p.1, p.2])) ∧ (ps.map (·.1)).Nodup ∧
  ∀ (p : Addr) (o : Obj) (vals : List V), H p = none → DRel K G (upd H p (rawO p o)) p (ps.map fun p => .str p.1) vals → IsAll K G vals (ps.map (·.2)) → Q (.ref p) (upd H p (rawO p o))
theorem call_dictPr (hc : X.calm = true) : CallR X (.type "dict") (rDictP (kw X)) := by
  intro pins s σ H xs us Q I r h
  obtain ⟨a, G, ps, rfl, g, hd, nd, q⟩ := h
  obtain ⟨u, rfl, rx⟩ := vals1 r
  cases rx
  obtain ⟨_, vs, e, hs, td, z, al⟩ := hd.inTD
  cases e
  obtain ⟨its, rv, p', zz⟩ := I.tuple (g.sqT hs)
  obtain ⟨rows, e1, e2, e3, e4, e5, e6⟩ := pairs_is I g al
  subst e1
  have ei : its = rows.map (fun r => Value.ref r.a) := by
    have : (rows.map fun r => V.ref r.a) = (rows.map (·.a)).map V.ref := by rw [List.map_map]; rfl
    rw [this] at rv
    rw [refs_at rv, List.map_map]; rfl
  have hdn : ∃ o n, s.heap.get? a = some o ∧ o.cls = .type "tuple" ∧ o.dict = none ∧ o.data = .seq its.toArray n := by
    obtain ⟨o, ho, hc2, n, hdt⟩ := p'
    rcases td with ⟨o2, u2, h1, d⟩ | ⟨o2, h1, d⟩
    · have h2 := (show ObjOk X.prog X.w H s.heap a (.frz o2 u2) from I.hok a _ (g _ _ h1)).1
      rw [ho] at h2; cases h2
      exact ⟨o, n, ho, hc2, d, hdt⟩
    · have h2 := I.kIn a o2 h1
      rw [ho] at h2; cases h2
      exact ⟨o, n, ho, hc2, d, hdt⟩
  have hlen : rows.length = ps.length := by have := congrArg List.length e2; rwa [List.length_map, List.length_map] at this
  have zl : rows.length ≤ sizeLine := by rw [hlen]; rw [List.length_map] at z; exact z
  have gj : ∀ {j : Nat} {k v : Value}, (rows.map fun r => (Value.str r.n r.t, r.u))[j]? = some (k, v) → ∃ r, rows[j]? = some r ∧ k = .str r.n r.t ∧ v = r.u := fun {j k v} e => by
    rw [List.getElem?_map] at e
    cases er : rows[j]? with
    | none => rw [er] at e; cases e
    | some r => rw [er] at e; cases e; exact ⟨r, rfl, rfl, rfl⟩
  have ok : PlainSeq "tuple" s.heap a its.toArray ∧ PairItems s.heap its.toArray (fun j => (rows[j]?.map (·.a)).getD 0) (rows.map fun r => (Value.str r.n r.t, r.u)) := by
    refine ⟨hdn, by rw [ei]; simp, fun j k v e => ?_⟩
    obtain ⟨r, er, rfl, rfl⟩ := gj e
    refine ⟨by rw [ei]; simp [er], .inl ?_⟩
    show s.heap.IsTuple ((rows[j]?.map (·.a)).getD 0) _
    rw [er]
    exact e6 r (List.mem_of_getElem? er)
  have nd2 : ((rows.map fun r => ((Sum.inr r.n : Key), r.u)).map (·.1)).Nodup := by
    have : (rows.map fun r => ((Sum.inr r.n : Key), r.u)).map (·.1) = (ps.map (·.1)).map Sum.inr := by rw [← e2, List.map_map, List.map_map]; rfl
    rw [this]
    unfold List.Nodup at nd ⊢
    rw [List.pairwise_map]
    exact nd.imp fun ne e => ne (Sum.inr.inj e)
  refine PySem.call_dict_pairs (knd := mixKind X.prog X.w) (kvs := rows.map fun r => ((Sum.inr r.n : Key), r.u)) (PairArg.tuple a its.toArray _ _) (I.ok.hd hc) ok ⟨by simp, fun i key val e => ?_⟩ (by rw [List.length_map]; exact zl) fun h' tk dd' hk => ?_
  · obtain ⟨r, er, rfl, rfl⟩ := gj e
    exact ⟨Sum.inr r.n, by rw [List.getElem?_map, er]; rfl, strKind_is X.prog X.w r.n r.t⟩
  rw [merged_nil_of_nodup _ nd2] at dd'
  obtain ⟨o1, es, ep, g1, g2, g3, g4, g5, g6⟩ := dd'
  have hm : (s.heap.objs.size == sysModules) = false := beq_eq_false_iff_ne.mpr (Nat.ne_of_gt I.big)
  refine ⟨.ref s.heap.objs.size, upd H s.heap.objs.size (rawO s.heap.objs.size o1), I.laid (t' := tk) (fun b u e => hk b u (fun z => nomatch z) e) (Nat.le_refl _) (raw_ok g1), rfl, q _ o1 (rows.map (·.v)) (I.hok.fresh (Nat.le_refl _)) ?_ e4⟩
  have hi : IsAll (kw X) G ((rows.map fun r => ((Sum.inr r.n : Key), r.u)).map fun p => kV p.1) ((rows.map fun r => ((Sum.inr r.n : Key), r.u)).map fun p => keyD p.1) := by
    rw [List.map_map, List.map_map]
    clear zz nd2 gj ok hdn hlen zl ei al rv e2 e3 e4 e6 g5 g6 p' hs hd z
    induction rows with
    | nil => exact .nil
    | cons r rows ih => exact .cons (.str r.n (e5 r List.mem_cons_self)) (ih fun r hr => e5 r (List.mem_cons_of_mem _ hr))
  have ek : ((rows.map fun r => ((Sum.inr r.n : Key), r.u)).map fun p => keyD p.1) = ps.map fun p => PyData.str p.1 := by
    have h1 : ((rows.map fun r => ((Sum.inr r.n : Key), r.u)).map fun p => keyD p.1) = (rows.map (·.n)).map PyData.str := by rw [List.map_map, List.map_map]; rfl
    rw [h1, e2, List.map_map]; rfl
  rw [← ek]
  exact DRel.ofS (K := kw X) (P := X.prog) hi (by rw [List.map_map]; exact e3) (by rw [List.length_map]; exact zl) hm g2 g3 g4 g5 g6 upd_same
end
/-- data: the pairs of names and values -/
def gDictP (ws : List W) (Q : W → Prop) : Prop := match ws with
  | [w] => ∃ m : Vals1, w = Ed m ∧ (m.map (·.1)).Nodup ∧ Q (.x (.m (td m)))
  | _ => False
theorem cd_dictP {K : KW} : CallD K (rDictP K) gDictP := by
  intro G0 H0 Hx G H σ ρ vs ws Q' Q E r q k
  unfold gDictP at q
  split at q
  · obtain ⟨v, rfl, r1⟩ := r.one
    obtain ⟨m, e1, nd, q⟩ := q
    subst e1
    have r1 : Is K G v (.tuple ((m.map fun p => (p.1, Enc.d p.2)).map fun p => .tuple [.str p.1, p.2])) := by
      rw [List.map_map]; exact r1
    obtain ⟨a, xs, rfl, _⟩ := r1.inTD
    refine ⟨a, G, _, rfl, E.gh, r1, by rw [List.map_map]; exact nd, fun p2 o vals hp dr al => k _ (.x (.m (td m))) _ _ (Up.newH E.gh hp) ⟨p2, vals, rfl, hp, E.gh.back hp, trivial, ?_, ?_⟩ q⟩
    · have : dkeys (td m) = (m.map fun p => (p.1, Enc.d p.2)).map fun p : Str × PyData => PyData.str p.1 := by rw [td_keys, List.map_map, List.map_map]; rfl
      rw [this]; exact dr
    · have : dvals (td m) = (m.map fun p => (p.1, Enc.d p.2)).map fun p : Str × PyData => p.2 := by rw [td_vals, List.map_map, List.map_map]; rfl
      rw [this]; exact al
  · exact q.elim
end DL

/-! DL57: facts used by a valuation, open blocks, supports. -/
namespace DL
open PySem PySem.Spec PyProof.Rows L2
/-- the facts that a valuation uses -/
def usedF (body : List Atom) (m : Vals1) : List Fact := body.map fun a => (a.1, a.2.map (ev (total m)))
theorem used_d (a : Atom) (m : Vals1) : PyData.tuple [Enc.d a.1, .tuple (a.2.map fun t => Enc.d (ev (total m) t))] = Enc.d ((a.1, a.2.map (ev (total m))) : Fact) := by
  show _ = PyData.tuple [Enc.d a.1, Enc.d (a.2.map (ev (total m)))]
  rw [show Enc.d (a.2.map (ev (total m))) = PyData.tuple ((a.2.map (ev (total m))).map Enc.d) from rfl, List.map_map]
  rfl
/-- blocks of two rows or more -/
def opnF (bs : List Block) : List (Fact × List VRow) := (bs.filter fun b => decide (1 < b.c.length)).map fun b => ((b.a, b.b), b.c)
/-- one fact more in a support -/
def supStep (ts : List Tb) (ob : List (Fact × List VRow)) (s : Option (List (Fact × VRow))) (f : Fact) : Option (List (Fact × VRow)) := s.bind fun s =>
  if (f.1, keyF ts f) ∈ ob.map (·.1) then match lookT s (f.1, keyF ts f) with
    | some r => if r = f.2 then some s else none
    | none => some (s ++ [((f.1, keyF ts f), f.2)])
  else some s
theorem putT_fresh {α β : Type} [DecidableEq α] [Enc α] [DecidableEq β] [Enc β] : ∀ (ps acc : List (α × β)), ((acc ++ ps).map (·.1)).Nodup → ps.foldl (fun kvs p => putT kvs p.1 p.2) acc = acc ++ ps
  | [], acc, _ => (List.append_nil acc).symm
  | p :: ps, acc, h => by
    have hk : p.1 ∉ acc.map (·.1) := fun z => by
      rw [List.map_append, List.map_cons] at h
      exact (List.nodup_append.mp h).2.2 _ z _ List.mem_cons_self rfl
    rw [List.foldl_cons, show putT acc p.1 p.2 = acc ++ [p] from if_neg hk, putT_fresh ps (acc ++ [p]) (by rw [List.append_assoc]; exact h), List.append_assoc]
    rfl
theorem filterMap_if {α β : Type} {p : α → Bool} {f : α → β} {xs : List α} : xs.filterMap (fun x => if p x = true then some (f x) else none) = (xs.filter p).map f := by
  induction xs with
  | nil => rfl
  | cons x xs ih =>
    rw [List.filterMap_cons, List.filter_cons]
    cases e : p x
    · simpa using ih
    · simpa using ih
theorem places_nd {ts : List Tb} {fs : List Fact} (ha : Asc fs) (ht : ∀ f ∈ fs, hasT ts f) : ((blocksG ts fs).map fun b => (b.a, b.b)).Nodup := by
  have h := (blocks_both rfl ha ht).2.2.1
  unfold blocksG
  rw [List.map_map]
  exact h
theorem opn_nd {ts : List Tb} {fs : List Fact} (ha : Asc fs) (ht : ∀ f ∈ fs, hasT ts f) : ((opnF (blocksG ts fs)).map (·.1)).Nodup := by
  unfold opnF
  rw [List.map_map]
  exact (places_nd ha ht).sublist ((List.filter_sublist ..).map _)
theorem opn_keys {bs : List Block} {k : Fact} : k ∈ (opnF bs).map (·.1) ↔ ∃ b ∈ bs, 1 < b.c.length ∧ (b.a, b.b) = k := by
  unfold opnF
  rw [List.map_map, List.mem_map]
  constructor
  · rintro ⟨b, hb, rfl⟩
    exact ⟨b, (List.mem_filter.mp hb).1, of_decide_eq_true (List.mem_filter.mp hb).2, rfl⟩
  · rintro ⟨b, hb, h, rfl⟩
    exact ⟨b, List.mem_filter.mpr ⟨hb, decide_eq_true h⟩, rfl⟩
def supF (ts : List Tb) (ob : List (Fact × List VRow)) (fs : List Fact) : Option (List (Fact × VRow)) := fs.foldl (supStep ts ob) (some [])
section
variable {ts : List Tb} {ob : List (Fact × List VRow)}
theorem supStep_same {S : List (Fact × VRow)} {f : Fact} {r : VRow} (ho : (f.1, keyF ts f) ∈ ob.map (·.1)) (el : lookT S (f.1, keyF ts f) = some r) (er : r = f.2) : supStep ts ob (some S) f = some S := by
  show (if (f.1, keyF ts f) ∈ ob.map (·.1) then _ else some S) = some S
  rw [if_pos ho]
  simp only [el]
  rw [if_pos er]
theorem supStep_ne {S : List (Fact × VRow)} {f : Fact} {r : VRow} (ho : (f.1, keyF ts f) ∈ ob.map (·.1)) (el : lookT S (f.1, keyF ts f) = some r) (er : ¬ r = f.2) : supStep ts ob (some S) f = none := by
  show (if (f.1, keyF ts f) ∈ ob.map (·.1) then _ else some S) = none
  rw [if_pos ho]
  simp only [el]
  rw [if_neg er]
theorem supStep_new {S : List (Fact × VRow)} {f : Fact} (ho : (f.1, keyF ts f) ∈ ob.map (·.1)) (el : lookT S (f.1, keyF ts f) = none) : supStep ts ob (some S) f = some (S ++ [((f.1, keyF ts f), f.2)]) := by
  show (if (f.1, keyF ts f) ∈ ob.map (·.1) then _ else some S) = _
  rw [if_pos ho]
  simp only [el]
theorem supStep_out {S : List (Fact × VRow)} {f : Fact} (ho : ¬ (f.1, keyF ts f) ∈ ob.map (·.1)) : supStep ts ob (some S) f = some S := by
  show (if (f.1, keyF ts f) ∈ ob.map (·.1) then _ else some S) = some S
  rw [if_neg ho]
theorem sup_dead (fs : List Fact) : fs.foldl (supStep ts ob) none = none := by
  induction fs with
  | nil => rfl
  | cons x fs ih => exact ih
theorem supF_snoc (fs : List Fact) (f : Fact) : supF ts ob (fs ++ [f]) = supStep ts ob (supF ts ob fs) f := by unfold supF; rw [List.foldl_append]; rfl
/-- no two facts of a block that is open -/
def Fits (ts : List Tb) (ob : List (Fact × List VRow)) (fs : List Fact) : Prop := ∀ f ∈ fs, ∀ g ∈ fs, (f.1, keyF ts f) = (g.1, keyF ts g) → (f.1, keyF ts f) ∈ ob.map (·.1) → f.2 = g.2
theorem sup_spec : ∀ fs : List Fact, (∀ s, supF ts ob fs = some s → Fits ts ob fs ∧ ∀ k r, lookT s k = some r ↔ k ∈ ob.map (·.1) ∧ ∃ f ∈ fs, (f.1, keyF ts f) = k ∧ f.2 = r) ∧ (supF ts ob fs = none → ¬ Fits ts ob fs) :=
  snocInd ⟨fun s e => (by
    cases e
    exact ⟨fun f hf => (by cases hf), fun k r => ⟨fun h => (by cases h), fun ⟨_, f, hf, _⟩ => (by cases hf)⟩⟩), fun e => by cases e⟩ fun fs f ih => by
    obtain ⟨ih1, ih2⟩ := ih
    rw [supF_snoc]
    have less : Fits ts ob (fs ++ [f]) → Fits ts ob fs := fun h a ha b hb => h a (List.mem_append_left _ ha) b (List.mem_append_left _ hb)
    cases e : supF ts ob fs with
    | none => exact ⟨fun s q => (by cases q), fun _ h => ih2 e (less h)⟩
    | some s =>
      obtain ⟨fi, lk⟩ := ih1 s e
      by_cases ho : (f.1, keyF ts f) ∈ ob.map (·.1)
      · cases el : lookT s (f.1, keyF ts f) with
        | some r =>
          obtain ⟨_, g, hg, e1, e2⟩ := (lk _ _).mp el
          by_cases er : r = f.2
          · have es : supStep ts ob (some s) f = some s := by
              show (if (f.1, keyF ts f) ∈ ob.map (·.1) then _ else some s) = some s
              rw [if_pos ho]
              simp only [el]
              rw [if_pos er]
            rw [es]
            refine ⟨fun s2 q => ?_, fun q => by cases q⟩
            cases q
            have one : ∀ a ∈ fs ++ [f], (f.1, keyF ts f) = (a.1, keyF ts a) → a.2 = f.2 := fun a ha ea => by
              rcases List.mem_append.mp ha with ha | ha
              · rw [fi a ha g hg (ea.symm.trans e1.symm) (ea ▸ ho), e2, er]
              · rw [List.mem_singleton.mp ha]
            refine ⟨fun a ha b hb eab hab => ?_, fun k r2 => ?_⟩
            · by_cases ea : (f.1, keyF ts f) = (a.1, keyF ts a)
              · rw [one a ha ea, one b hb (ea.trans eab)]
              · have ha2 : a ∈ fs := (List.mem_append.mp ha).resolve_right fun z => ea (by rw [List.mem_singleton.mp z])
                have hb2 : b ∈ fs := (List.mem_append.mp hb).resolve_right fun z => ea (by rw [eab, List.mem_singleton.mp z])
                exact fi a ha2 b hb2 eab hab
            · rw [lk]
              refine and_congr_right fun hk => ⟨fun ⟨a, ha, h⟩ => ⟨a, List.mem_append_left _ ha, h⟩, fun ⟨a, ha, h1, h2⟩ => ?_⟩
              rcases List.mem_append.mp ha with ha | ha
              · exact ⟨a, ha, h1, h2⟩
              · rw [List.mem_singleton.mp ha] at h1 h2
                exact ⟨g, hg, e1.trans h1, by rw [e2, er, h2]⟩
          · have es : supStep ts ob (some s) f = none := by
              show (if (f.1, keyF ts f) ∈ ob.map (·.1) then _ else some s) = none
              rw [if_pos ho]
              simp only [el]
              rw [if_neg er]
            rw [es]
            refine ⟨fun s2 q => (by cases q), fun _ h => er ?_⟩
            rw [← e2]
            exact h g (List.mem_append_left _ hg) f (by simp) e1 (e1 ▸ ho)
        | none =>
          have es : supStep ts ob (some s) f = some (s ++ [((f.1, keyF ts f), f.2)]) := by
            show (if (f.1, keyF ts f) ∈ ob.map (·.1) then _ else some s) = _
            rw [if_pos ho]
            simp only [el]
          rw [es]
          have fresh : ∀ a ∈ fs, (a.1, keyF ts a) ≠ (f.1, keyF ts f) := fun a ha ea => by
            have := (lk _ a.2).mpr ⟨ho, a, ha, ea, rfl⟩
            rw [el] at this
            cases this
          refine ⟨fun s2 q => ?_, fun q => by cases q⟩
          cases q
          refine ⟨fun a ha b hb eab hab => ?_, fun k r2 => ?_⟩
          · rcases List.mem_append.mp ha with ha | ha <;> rcases List.mem_append.mp hb with hb | hb
            · exact fi a ha b hb eab hab
            · rw [List.mem_singleton.mp hb] at eab
              exact absurd eab (fresh a ha)
            · rw [List.mem_singleton.mp ha] at eab
              exact absurd eab.symm (fresh b hb)
            · rw [List.mem_singleton.mp ha, List.mem_singleton.mp hb]
          · rw [lookT_snoc]
            by_cases ek : (f.1, keyF ts f) = k
            · subst ek
              rw [el, if_pos rfl]
              constructor
              · intro h
                cases h
                exact ⟨ho, f, by simp, rfl, rfl⟩
              · rintro ⟨_, a, ha, h1, h2⟩
                rcases List.mem_append.mp ha with ha | ha
                · exact absurd h1 (fresh a ha)
                · rw [List.mem_singleton.mp ha] at h2
                  rw [← h2]; rfl
            · rw [if_neg ek, Option.or_none, lk]
              refine and_congr_right fun hk => ⟨fun ⟨a, ha, h⟩ => ⟨a, List.mem_append_left _ ha, h⟩, fun ⟨a, ha, h1, h2⟩ => ?_⟩
              rcases List.mem_append.mp ha with ha | ha
              · exact ⟨a, ha, h1, h2⟩
              · rw [List.mem_singleton.mp ha] at h1
                exact absurd h1 ek
      · have es : supStep ts ob (some s) f = some s := by
          show (if (f.1, keyF ts f) ∈ ob.map (·.1) then _ else some s) = some s
          rw [if_neg ho]
        rw [es]
        refine ⟨fun s2 q => ?_, fun q => by cases q⟩
        cases q
        refine ⟨fun a ha b hb eab hab => ?_, fun k r2 => ?_⟩
        · have ha2 : a ∈ fs := (List.mem_append.mp ha).resolve_right fun z => ho (by rw [← List.mem_singleton.mp z]; exact hab)
          have hb2 : b ∈ fs := (List.mem_append.mp hb).resolve_right fun z => ho (by rw [← List.mem_singleton.mp z, ← eab]; exact hab)
          exact fi a ha2 b hb2 eab hab
        · rw [lk]
          refine and_congr_right fun hk => ⟨fun ⟨a, ha, h⟩ => ⟨a, List.mem_append_left _ ha, h⟩, fun ⟨a, ha, h1, h2⟩ => ?_⟩
          rcases List.mem_append.mp ha with ha | ha
          · exact ⟨a, ha, h1, h2⟩
          · rw [List.mem_singleton.mp ha] at h1
            exact absurd (h1 ▸ hk) ho
theorem sup_is {fs : List Fact} : (supF ts ob fs).isSome = true ↔ Fits ts ob fs := by
  obtain ⟨h1, h2⟩ := sup_spec (ts := ts) (ob := ob) fs
  cases e : supF ts ob fs with
  | none => exact ⟨fun z => (by cases z), fun z => absurd z (h2 e)⟩
  | some s => exact ⟨fun _ => (h1 s e).1, fun _ => rfl⟩
end
theorem look_in {m : Vals1} {x : Str} {u : Val} (h : lookT m x = some u) : (x, u) ∈ m := by
  induction m with
  | nil => cases h
  | cons q m ih =>
    have h : (if q.1 = x then some q.2 else lookT m x) = some u := h
    by_cases e : q.1 = x
    · rw [if_pos e] at h
      cases h
      rw [← e]
      exact List.mem_cons_self
    · rw [if_neg e] at h
      exact List.mem_cons_of_mem _ (ih h)
theorem tupV_perm {m : Vals1} (nd : (m.map (·.1)).Nodup) : (tupV m).Perm m := by
  rw [← tupV_of nd (srtBy_perm (·.1) m) (srtBy_srt (·.1) m)]
  exact srtBy_perm _ _
theorem total_tup {m : Vals1} (nd : (m.map (·.1)).Nodup) : total (tupV m) = total m := by
  have p := tupV_perm nd
  have nd2 : ((tupV m).map (·.1)).Nodup := (p.map _).nodup_iff.mpr nd
  funext x
  show (lookT (tupV m) x).getD (.i 0) = (lookT m x).getD (.i 0)
  have : lookT (tupV m) x = lookT m x := by
    cases e : lookT m x with
    | some u => exact look_mem nd2 (p.mem_iff.mpr (look_in e))
    | none =>
      cases e2 : lookT (tupV m) x with
      | none => rfl
      | some u =>
        have := look_mem nd (p.mem_iff.mp (look_in e2))
        rw [e] at this
        cases this
  rw [this]
theorem used_sub {gs : List Fact} {body : List Atom} (ar : Arity gs body) {m : Vals1} (hm : m ∈ fvF gs body) : ∀ f ∈ usedF body m, f ∈ gs := fun f hf => by
  obtain ⟨a, ha, rfl⟩ := List.mem_map.mp hf
  exact (fvF_says body ar).mp ⟨m, hm, says_total m⟩ a ha
/-- the rows of one join that some mending may give, as they are found -/
def valsP (gs : List Fact) (body : List Atom) : List Vals1 := srtBy (fun m : Vals1 => m.map (·.2)) ((fvF gs body).map tupV)
def possJ (ts : List Tb) (ob : List (Fact × List VRow)) (gs : List Fact) (j : Join) : List VRow := ((valsP gs j.2).filter fun m => (supF ts ob (usedF j.2 m)).isSome).map (headF j.1)
def possF (ts : List Tb) (ob : List (Fact × List VRow)) (gs : List Fact) (js : List Join) : List VRow := js.flatMap (possJ ts ob gs)
theorem mem_valsP {gs : List Fact} {body : List Atom} {m : Vals1} : m ∈ valsP gs body ↔ ∃ n ∈ fvF gs body, tupV n = m := by
  unfold valsP
  rw [(srtBy_perm _ _).mem_iff, List.mem_map]
theorem valsP_len {gs : List Fact} {body : List Atom} : (valsP gs body).length = (fvF gs body).length := by
  unfold valsP
  rw [(srtBy_perm _ _).length_eq, List.length_map]
theorem mem_possF {ts : List Tb} {ob : List (Fact × List VRow)} {gs : List Fact} {js : List Join} {r : VRow} : r ∈ possF ts ob gs js ↔ ∃ j ∈ js, ∃ m ∈ fvF gs j.2, Fits ts ob (usedF j.2 m) ∧ headF j.1 m = r := by
  unfold possF
  rw [List.mem_flatMap]
  refine exists_congr fun j => and_congr_right fun _ => ?_
  unfold possJ
  rw [List.mem_map]
  have eu : ∀ n ∈ fvF gs j.2, usedF j.2 (tupV n) = usedF j.2 n ∧ headF j.1 (tupV n) = headF j.1 n := fun n hn => by
    unfold usedF headF
    rw [total_tup (fvF_nd gs j.2 n hn)]
    exact ⟨rfl, rfl⟩
  constructor
  · rintro ⟨m, hm, rfl⟩
    obtain ⟨h1, h2⟩ := List.mem_filter.mp hm
    obtain ⟨n, hn, rfl⟩ := mem_valsP.mp h1
    obtain ⟨e1, e2⟩ := eu n hn
    rw [e1] at h2
    exact ⟨n, hn, sup_is.mp h2, e2.symm⟩
  · rintro ⟨n, hn, h2, rfl⟩
    obtain ⟨e1, e2⟩ := eu n hn
    exact ⟨tupV n, List.mem_filter.mpr ⟨mem_valsP.mpr ⟨n, hn, rfl⟩, by rw [e1]; exact sup_is.mpr h2⟩, e2⟩
theorem possJ_len {ts : List Tb} {ob : List (Fact × List VRow)} {gs : List Fact} {j : Join} : (possJ ts ob gs j).length ≤ (fvF gs j.2).length := by
  unfold possJ
  rw [List.length_map, ← valsP_len]
  exact List.length_filter_le ..
theorem possF_len {ts : List Tb} {ob : List (Fact × List VRow)} {gs : List Fact} : ∀ {js : List Join}, (possF ts ob gs js).length ≤ (rowsF gs js).length
  | [] => Nat.le_refl _
  | j :: js => by
    have h1 := possJ_len (ts := ts) (ob := ob) (gs := gs) (j := j)
    have h2 := possF_len (ts := ts) (ob := ob) (gs := gs) (js := js)
    unfold possF rowsF at h2 ⊢
    rw [List.flatMap_cons, List.flatMap_cons, List.length_append, List.length_append, List.length_map]
    omega
end DL

/-! DL58: rows that some mending gives. -/
namespace DL
open PySem PySem.Spec PyProof.Rows L2
theorem each_pick {α β : Type} {P R : α → β → Prop} : ∀ {as : List α}, (∀ a ∈ as, ∃ b, P a b ∧ R a b) → ∃ bs, Each P as bs ∧ ∀ a ∈ as, ∃ b ∈ bs, R a b
  | [], _ => ⟨[], .nil, fun a h => by cases h⟩
  | a :: as, h => by
    obtain ⟨b, p, r⟩ := h a List.mem_cons_self
    obtain ⟨bs, e, k⟩ := each_pick (P := P) (R := R) fun x hx => h x (List.mem_cons_of_mem _ hx)
    refine ⟨b :: bs, .cons p e, fun x hx => ?_⟩
    rcases List.mem_cons.mp hx with z | hx
    · rw [z]; exact ⟨b, List.mem_cons_self, r⟩
    · obtain ⟨y, hy, q⟩ := k x hx
      exact ⟨y, List.mem_cons_of_mem _ hy, q⟩
section
variable {ts : List Tb} {gs fs : List Fact}
theorem blk_at (ga : Asc gs) (ht : ∀ f ∈ gs, hasT ts f) {f : Fact} (hf : f ∈ gs) : ∃ b ∈ blocksG ts gs, MP b f ∧ (f.1, keyF ts f) = (b.a, b.b) := by
  rw [← blocks_all ga ht] at hf
  obtain ⟨b, hb, e1, e2⟩ := mem_allF.mp hf
  have := (blk_place hb e2).1
  exact ⟨b, hb, ⟨e1, e2⟩, by rw [show f = (b.a, f.2) from by rw [← e1]]; exact this⟩
/-- facts that fit stand in one mending -/
theorem fits_mend (ga : Asc gs) (ht : ∀ f ∈ gs, hasT ts f) (sub : ∀ f ∈ fs, f ∈ gs) : Fits ts (opnF (blocksG ts gs)) fs ↔ ∃ ms, Each MP (blocksG ts gs) ms ∧ ∀ f ∈ fs, f ∈ ms := by
  constructor
  · intro fi
    obtain ⟨ms, em, k⟩ := each_pick (P := MP) (R := fun b f => ∀ g ∈ fs, (g.1, keyF ts g) = (b.a, b.b) → g = f) (as := blocksG ts gs) fun b hb => by
      by_cases h : ∃ g ∈ fs, (g.1, keyF ts g) = (b.a, b.b)
      · obtain ⟨g, hg, e⟩ := h
        have inb : ∀ x ∈ fs, (x.1, keyF ts x) = (b.a, b.b) → MP b x := fun x hx ex => by
          obtain ⟨c, hc, mp, ec⟩ := blk_at ga ht (sub x hx)
          have := blk_same ga ht hb hc (ex.symm.trans ec)
          rw [this]; exact mp
        refine ⟨g, inb g hg e, fun x hx ex => ?_⟩
        have e1 : x.1 = g.1 := by rw [(inb x hx ex).1, (inb g hg e).1]
        refine Prod.ext e1 ?_
        by_cases ho : 1 < b.c.length
        · exact fi x hx g hg (ex.trans e.symm) (opn_keys.mpr ⟨b, hb, ho, ex.symm⟩)
        · have h1 := (inb x hx ex).2
          have h2 := (inb g hg e).2
          match hc : b.c with
          | [] => rw [hc] at h1; cases h1
          | [r] =>
            rw [hc] at h1 h2
            rw [List.mem_singleton.mp h1, List.mem_singleton.mp h2]
          | _ :: _ :: _ =>
            rw [hc] at ho
            exact absurd (by simp) ho
      · obtain ⟨r, hr⟩ := List.exists_mem_of_ne_nil _ (blocks_ne ts gs b hb)
        exact ⟨(b.a, r), ⟨rfl, hr⟩, fun g hg e => absurd ⟨g, hg, e⟩ h⟩
    refine ⟨ms, em, fun f hf => ?_⟩
    obtain ⟨b, hb, _, e⟩ := blk_at ga ht (sub f hf)
    obtain ⟨g, hg, q⟩ := k b hb
    rw [q f hf e]; exact hg
  · rintro ⟨ms, em, h⟩ f hf g hg e _
    obtain ⟨i, hi, rfl⟩ := List.mem_iff_getElem.mp (h f hf)
    obtain ⟨k, hk, rfl⟩ := List.mem_iff_getElem.mp (h g hg)
    have el := em.len
    have p1 := (mend_place em (by omega) hi).1
    have p2 := (mend_place em (by omega) hk).1
    have e : placeF ts ms[i] = placeF ts ms[k] := e
    rw [p1, p2] at e
    have := place_inj ga ht (by omega) (by omega) e
    subst this
    rfl
theorem used_says {body : List Atom} {ar : Arity gs body} {m : Vals1} (hm : m ∈ fvF gs body) {v : Str → Val} (hs : Says m v) : ∀ a ∈ body, a.2.map (ev (total m)) = a.2.map (ev v) := fun a ha =>
  head_says (head := a.2) (fun x hx => mem_varsF.mpr ⟨a, ha, hx⟩) ar hm hs
/-- possible rows are the rows of some mending -/
theorem poss_ans (ga : Asc gs) (ht : ∀ f ∈ gs, hasT ts f) {js : List Join} (qf : QFit gs js) {r : VRow} : r ∈ possF ts (opnF (blocksG ts gs)) gs js ↔ ∃ ms, Each MP (blocksG ts gs) ms ∧ Ans ms js r := by
  rw [mem_possF]
  constructor
  · rintro ⟨j, hj, m, hm, fi, rfl⟩
    have ar := (qf.fit j hj).rows
    obtain ⟨ms, em, h⟩ := (fits_mend ga ht (used_sub ar hm)).mp fi
    exact ⟨ms, em, j, hj, total m, fun a ha => h _ (List.mem_map.mpr ⟨a, ha, rfl⟩), rfl⟩
  · rintro ⟨ms, em, j, hj, v, sat, rfl⟩
    have ar := (qf.fit j hj).rows
    obtain ⟨m, hm, hs⟩ := (fvF_says j.2 ar).mpr (sat.mono (mend_sub em))
    refine ⟨j, hj, m, hm, (fits_mend ga ht (used_sub ar hm)).mpr ⟨ms, em, fun f hf => ?_⟩, head_says (qf.hd j hj) ar hm hs⟩
    obtain ⟨a, ha, rfl⟩ := List.mem_map.mp hf
    rw [used_says (ar := ar) hm hs a ha]
    exact sat a ha
theorem rows_few {store : List Fact} {js : List Join} (h7 : store.length ≤ 7) (h2 : js.length ≤ 2) (h3 : ∀ j ∈ js, j.2.length ≤ 3) : (rowsF store js).length ≤ 686 := by
  refine Nat.le_trans (rowsF_sum store js) (Nat.le_trans (sum_le (n := 343) fun j hj => ?_) (by omega))
  have hs : szF store ≤ 7 := by unfold szF; omega
  exact Nat.le_trans (Nat.pow_le_pow_left hs _) (Nat.pow_le_pow_right (n := 7) (by decide) (h3 j hj))
end
end DL

/-! DL59: min(xs, default=d) of pairs of numbers. -/
namespace DL
open PySem PySem.Spec PyProof.Rows L2
instance : KeyE Nat := ⟨fun n => .int (n : Int), fun a b => by simp [PySem.W.alike], fun a b => by simp [PyData.eqv]; exact Int.natCast_inj, fun a b => by rw [PySem.W.dataLt_int]; show decide ((a : Int) < (b : Int)) = decide (a < b); simp, 0, (fun a => by simp [PyData.depth]), fun _ => rfl⟩
theorem ek_pairN (p : Nat × Nat) : (KeyE.ek p : PyData) = Enc.d p := rfl
theorem minD_first {p : Nat × Nat} : ∀ {ps : List (Nat × Nat)}, (∀ q ∈ ps, SO.lt q p = false) → PySem.W.minD (Enc.d p) (ps.map Enc.d) = Enc.d p
  | [], _ => rfl
  | q :: ps, h => by
    show PySem.W.minD (if PySem.W.dataLt (Enc.d q) (Enc.d p) = true then Enc.d q else Enc.d p) (ps.map Enc.d) = _
    rw [← ek_pairN, ← ek_pairN, KeyE.lt, h q List.mem_cons_self]
    exact minD_first fun x hx => h x (List.mem_cons_of_mem _ hx)
section
variable {X : Cx}
/-- min(xs, default=d), xs ascending pairs of numbers -/
def rMinD (K : KW) : List V → List V → Hp → VK → Prop := fun vs zs H Q => ∃ (l : Addr) (ys : List V) (d : V) (G : Hp) (ps : List (Nat × Nat)), vs = [.ref l] ∧ zs = [d] ∧ Ex G H ∧ SqL K H l ys ∧ ps.length ≤ sizeLine ∧ IsAll K G ys (ps.map Enc.d) ∧ Asc ps ∧
  (ps = [] → Q d H) ∧ ∀ p r v, ps = p :: r → Is K G v (Enc.d p) → Q v H
theorem cr_minD (hc : X.calm = true) (hu : X.A.units + 65 < cLine) : CallRK X (.builtin "min") [Str.ofString "default"] (rMinD (kw X)) := by
  intro pins s σ H vs zs us ws Q I r rz h
  obtain ⟨l, ys, d, G, ps, rfl, rfl, g, hs, hz, al, asc, q0, q1⟩ := h
  obtain rfl := Vals.ref1 r
  obtain ⟨w1, rfl, e1⟩ := vals1 rz
  obtain ⟨its, rv, hl, _⟩ := I.list hs
  obtain ⟨as, hr⟩ := IsAll.reads I g (ps.map Enc.d) ys its (noDcts_map (fun _ => rfl) ps) al rv
  have dep : PyData.depthAll (ps.map (Enc.d (α := Nat × Nat))) ≤ 10 := by
    refine Nat.le_trans (depthAll_le (n := 5) fun x hx => ?_) (by decide)
    obtain ⟨p, _, rfl⟩ := List.mem_map.mp hx
    exact Nat.le_trans (Enc.dep p) (by decide)
  have ali : PySem.W.AlikeAll (ps.map (Enc.d (α := Nat × Nat))) := by
    refine ⟨fun x hx y hy => ?_, fun x hx => ?_⟩
    · obtain ⟨p, _, rfl⟩ := List.mem_map.mp hx
      obtain ⟨q, _, rfl⟩ := List.mem_map.mp hy
      exact KeyE.al p q
    · obtain ⟨p, _, rfl⟩ := List.mem_map.mp hx
      intro z; cases z
  refine PySem.W.min_list_default (vs := its.toArray) (I.ok.hd hc) hl.isList (by simpa using hr) ali (by omega) (fun e h' tk hk => ?_) (fun y zs i v h' tk bs e hv hrd hk => ?_)
  · exact ⟨d, H, I.kept hk, e1, q0 (List.map_eq_nil_iff.mp e)⟩
  · match ps, e with
    | p :: r, e =>
      have e : (Enc.d p :: r.map Enc.d : List PyData) = y :: zs := e
      injection e with ea eb
      subst ea eb
      rw [minD_first fun q hq => SO.asym ((List.pairwise_cons.mp asc).1 q hq)] at hrd
      have hv : its[i]? = some v := by rw [← hv]; simp
      have hi : i < ys.length := by rw [rv.length]; exact (List.getElem?_eq_some_iff.mp hv).1
      obtain ⟨u, hu2, ru⟩ := rv.get (List.getElem?_eq_getElem hi)
      rw [hv] at hu2
      cases hu2
      obtain ⟨dd, hd, is⟩ := al.getV (List.getElem?_eq_getElem hi)
      rw [List.getElem?_map] at hd
      obtain ⟨q, hq, rfl⟩ := Option.map_eq_some_iff.mp hd
      obtain ⟨as2, r2⟩ := Is.reads I g (Enc.d q) _ _ rfl is ru
      have eq : Enc.d q = Enc.d p := PySem.SeqAt.Reads.unique (Enc.d q) (Enc.d p) v as2 bs rfl (PySem.W.reads_keeps hk r2) hrd
      exact ⟨ys[i], H, I.kept hk, ru, q1 p r _ rfl (eq ▸ is)⟩
end
/-- data: min(xs, default=d) -/
def gMinD (ws : List W) (wd : W) (Q : W → Prop) : Prop := match ws with
  | [w] => ∃ ps : List (Nat × Nat), asL w = some (ps.map Enc.d) ∧ Asc ps ∧ (ps = [] → Q wd) ∧ ∀ p r, ps = p :: r → Q (.d (Enc.d p))
  | _ => False
def dMinD (u : TAd) (te : TEd) : TEd := fun ρ Q => u ρ fun ws => te ρ fun wd => gMinD ws wd Q
theorem snd_minD {K : KW} {Z : Wish} {ts : TA} {u : TAd} {ue : TE} {te : TEd} (sa : SndA K Z ts u) (se : Snd K Z ue te) : Snd K Z (tCKw (rMinD K) ts (tCons ue tNil)) (dMinD u te) := by
  intro G0 H0 G H σ ρ Q' Q E gd hh k
  refine sa G0 H0 G H σ ρ _ _ E gd hh fun vs ws G1 H1 u1 r1 q1 => ?_
  have E1 := E.to u1
  refine se G0 H0 G1 H1 σ ρ _ _ E1 gd q1 fun v2 w2 G2 H2 u2 r2 q2 => ?_
  unfold gMinD at q2
  split at q2
  · obtain ⟨v, rfl, ra⟩ := r1.one
    obtain ⟨ps, e1, asc, q0, q⟩ := q2
    obtain ⟨p, us, rfl, hs, z, a⟩ := ra.asL E1 e1
    refine ⟨p, us, v2, G2, ps, rfl, rfl, u2.gh, u2.h.sqL hs, by rw [List.length_map] at z; exact z, a.up u2.g, asc, fun e => ?_, fun x r v e is => ?_⟩
    · exact k _ w2 _ _ (u1.trans u2) (r2.at u1.h) (q0 e)
    · exact k _ (.d (Enc.d x)) _ _ (u1.trans u2) is (q x r e)
  · exact q2.elim
section
variable {X : Cx} {Z : Wish} {pos : Pos}
theorem d_minD {p kpos : Pos} {e d : Expr} {u : TAd} {te : TEd} (hc : X.calm = true) (hu : X.A.units + 65 < cLine) (hm : X.mg "min" = none) (ha : PDA X Z [e] u) (hd : PD X Z d te) (hv : bootBuiltins "min" = some (.builtin "min") := by decide +kernel) (hg : Gl X "min" := by rfl)
    (he : backTo pos (starEach [e] X.env) = (false, eval e X.env) :: backTo pos (starEach [] X.env) := by rfl) (hpl : (backTo pos (starEach [e] X.env)).any (·.1) = false := by rfl)
    (hall : (backToKw pos (keywordEach [⟨some "default", d, kpos⟩] X.env)).all (·.1.isSome) = true := by rfl) (hnone : (backToKw pos (keywordEach [⟨some "default", d, kpos⟩] X.env)).any (·.1.isNone) = false := by rfl)
    (hks : (backToKw pos (keywordEach [⟨some "default", d, kpos⟩] X.env)).filterMap (·.1) = [Str.ofString "default"] := by rfl) :
    PD X Z (.Call (.Name "min" p) [e] [⟨some "default", d, kpos⟩] pos) (dMinD u te) := by
  obtain ⟨ts, pa, sa⟩ := ha
  obtain ⟨t2, pe, se⟩ := hd
  exact ⟨_, pe_callBK (ks := [Str.ofString "default"]) (cr_minD hc hu) hg hm hv pa (pk_cons pe pk_nil) (by decide) (by decide) he hpl hall hnone hks, snd_minD sa se⟩
end
theorem atksF_asc {ts : List Tb} {j : Join} {L : List Nat} {b : List Str} (h : Asc L) : Asc (atksF ts j L b) := by
  unfold atksF Asc
  rw [List.pairwise_flatMap]
  refine ⟨fun i _ => ?_, h.imp fun {x y} hxy p hp q hq => ?_⟩
  · rw [List.pairwise_map]
    refine (List.Pairwise.filter _ h).imp fun {x y} hxy => ?_
    show ltP (i, x) (i, y) = true
    unfold ltP
    rw [if_pos rfl]; exact hxy
  · obtain ⟨u, _, rfl⟩ := List.mem_map.mp hp
    obtain ⟨v, _, rfl⟩ := List.mem_map.mp hq
    show ltP (x, u) (y, v) = true
    unfold ltP
    rw [if_neg fun e => ?_]
    · exact hxy
    · have e : x = y := e
      rw [e, SO.irr] at hxy; cases hxy
theorem same_ring {ts : List Tb} {j : Join} {r : List Nat × List Nat × List Str} {Q : W → Prop} (h : Q (.d (.bool true))) : sameR 12 (argW (.d (ringV ts j r))) (argW (.d (ringV ts j r))) Q := by
  unfold ringV
  split
  · rename_i p _
    have nd : noDict (ringD r.2.1 r.2.2 p) = true := by
      refine noDict_tuple fun x hx => ?_
      simp only [List.mem_cons, List.not_mem_nil, or_false] at hx
      rcases hx with rfl | rfl | rfl | rfl
      · exact Enc.nd _
      · exact Enc.nd _
      · exact Enc.nd _
      · exact Enc.nd _
    refine sameR_self h (argW_asA (noDict_ne nd)) nd ?_
    have d1 := Enc.dep r.2.1
    have d2 := Enc.dep r.2.2
    have d3 := Enc.dep p.1
    have d4 := Enc.dep p.2
    have e1 : Enc.lvl (List Nat) = 1 := rfl
    have e2 : Enc.lvl (List Str) = 1 := rfl
    have e3 : Enc.lvl Nat = 0 := rfl
    unfold ringD
    simp only [PyData.depth, PyData.depthAll]
    omega
  · rw [argW_n]
    exact sameR_none h
end DL

/-! DL60: one fact of a mending exchanged for a rival: no new values off the attacked names. -/
namespace DL
open PySem PySem.Spec PyProof.Rows L2
/-- one fact for each place -/
def KeyU (ts : List Tb) (fs : List Fact) : Prop := ∀ f ∈ fs, ∀ g ∈ fs, f.1 = g.1 → keyF ts f = keyF ts g → f = g
/-- the fact that an atom uses -/
def fAt (v : Str → Val) (a : Atom) : Fact := (a.1, a.2.map (ev v))
theorem keyF_at {ts : List Tb} {t : Tb} {a : Atom} (e : findT ts a.1 = some t) (v : Str → Val) : keyF ts (fAt v a) = (keyT ts a).map (ev v) := by
  unfold keyF keyT kOf fAt
  simp only [e]
  rw [List.map_take]
theorem ev_free {us : List Term} {v w : Str → Val} (h : ∀ x ∈ freeV us [], v x = w x) : us.map (ev v) = us.map (ev w) := by
  refine List.map_congr_left fun t ht => ?_
  cases t with
  | val u => rfl
  | var x => exact h x (mem_freeV.mpr ⟨ht, by simp⟩)
theorem free_ev {us : List Term} {v w : Str → Val} (h : us.map (ev v) = us.map (ev w)) : ∀ x ∈ freeV us [], v x = w x := fun x hx => by
  obtain ⟨h1, _⟩ := mem_freeV.mp hx
  obtain ⟨i, hi, e⟩ := List.mem_iff_getElem.mp h1
  have := congrArg (fun l => l[i]?) h
  simp only [List.getElem?_map, List.getElem?_eq_getElem hi, e, Option.map_some] at this
  exact Option.some.inj this
theorem inj_of_nd {α β : Type} {f : α → β} : ∀ {xs : List α}, (xs.map f).Nodup → ∀ {a b : α}, a ∈ xs → b ∈ xs → f a = f b → a = b
  | x :: xs, h, a, b, ha, hb, e => by
    rw [List.map_cons, List.nodup_cons] at h
    rcases List.mem_cons.mp ha with p | p <;> rcases List.mem_cons.mp hb with q | q
    · rw [p, q]
    · exact absurd (List.mem_map.mpr ⟨b, q, by rw [← e, p]⟩) h.1
    · exact absurd (List.mem_map.mpr ⟨a, p, by rw [e, q]⟩) h.1
    · exact inj_of_nd h.2 p q e
section
variable {ts : List Tb} {j : Join} {i : Nat} {M N : List Fact} {v0 v : Str → Val}
theorem exchange (cj : CjOk ts j) (sm : (j.2.map (·.1)).Nodup) (hi : i < j.2.length) (kM : KeyU ts M) (sM : Sat M j.2 v0)
    (hN : ∀ f ∈ N, f ∈ M ∨ f.1 = (atA j i).1 ∧ keyF ts f = keyF ts (fAt v0 (atA j i))) (sN : Sat N j.2 v) :
    ∃ w, Sat M j.2 w ∧ ∀ x, x ∉ attF ts j (List.range j.2.length) i [] → w x = v x := by
  have ai := atA_mem hi
  obtain ⟨ti, eti⟩ := cj.tab _ ai.2
  have kat : ∀ a ∈ j.2, ∀ u, keyF ts (fAt u a) = (keyT ts a).map (ev u) := fun a ha u => let ⟨t, e⟩ := cj.tab a ha; keyF_at e u
  have one : ∀ a ∈ j.2, ∀ c ∈ j.2, a.1 = c.1 → a = c := fun a ha c hc e => inj_of_nd sm ha hc e
  have off : ∀ a ∈ j.2, a ≠ atA j i → fAt v a ∈ M := fun a ha ne => by
    rcases hN _ (sN a ha) with h | h
    · exact h
    · exact absurd (one a ha _ ai.2 h.1) ne
  by_cases hk : keyF ts (fAt v (atA j i)) = keyF ts (fAt v0 (atA j i))
  · -- the keys are the same
    have nat : ∀ o, o < j.2.length → o ≠ i → atA j o ≠ atA j i := fun o ho ne e => by
      have h1 := (atA_mem ho).1
      have e2 : (j.2.map (·.1))[o]'(by rw [List.length_map]; exact ho) = (j.2.map (·.1))[i]'(by rw [List.length_map]; exact hi) := by
        rw [List.getElem_map, List.getElem_map, ← h1, ← ai.1, e]
      exact ne ((List.getElem_inj (h₀ := by rw [List.length_map]; exact ho) (h₁ := by rw [List.length_map]; exact hi) sm).mp e2)
    have same : ∀ x ∈ clF ts j (List.range j.2.length) i [], v x = v0 x := by
      have key : Sub (clF ts j (List.range j.2.length) i []) ((clF ts j (List.range j.2.length) i []).filter fun x => decide (v x = v0 x)) := by
        refine clF_least (isCl_iff.mpr ⟨fun x hx => List.mem_filter.mpr ⟨(isCl_iff.mp clF_closed).1 x hx, decide_eq_true ?_⟩, fun r hr hc => ?_⟩)
        · rw [kat _ ai.2, kat _ ai.2] at hk
          exact free_ev hk x hx
        · obtain ⟨o, ho, rfl⟩ := List.mem_map.mp hr
          have ho2 : o < j.2.length := List.mem_range.mp ho
          have hc : (!decide (o = i) && allIn (keyV' ts j [] o) ((clF ts j (List.range j.2.length) i []).filter fun x => decide (v x = v0 x))) = true := hc
          rw [Bool.and_eq_true, allIn_iff, Bool.not_eq_true', decide_eq_false_iff_not] at hc
          obtain ⟨ne, hs⟩ := hc
          have ao := (atA_mem ho2).2
          have ek : keyF ts (fAt v (atA j o)) = keyF ts (fAt v0 (atA j o)) := by
            rw [kat _ ao, kat _ ao]
            exact ev_free fun x hx => of_decide_eq_true (List.mem_filter.mp (hs x hx)).2
          have ef := kM _ (off _ ao (nat o ho2 ne)) _ (sM _ ao) rfl ek
          have er : (atA j o).2.map (ev v) = (atA j o).2.map (ev v0) := congrArg Prod.snd ef
          refine fun x hx => List.mem_filter.mpr ⟨cl_closed ho ne (fun z hz => (List.mem_filter.mp (hs z hz)).1) x hx, decide_eq_true (free_ev er x hx)⟩
      exact fun x hx => of_decide_eq_true (List.mem_filter.mp (key x hx)).2
    refine ⟨fun x => if x ∈ attF ts j (List.range j.2.length) i [] then v0 x else v x, fun a ha => ?_, fun x hx => if_neg hx⟩
    obtain ⟨o, ho, e⟩ := List.mem_iff_getElem.mp ha
    have eo : atA j o = a := (atA_mem ho).1.trans e
    have hl : o ∈ List.range j.2.length := List.mem_range.mpr ho
    by_cases hm : ∃ y, y ∈ opn j [] (clF ts j (List.range j.2.length) i []) o ∧ y ∈ attF ts j (List.range j.2.length) i []
    · obtain ⟨y, y1, y2⟩ := hm
      have sub := att_closed hl y1 y2
      have ea : a.2.map (ev fun x => if x ∈ attF ts j (List.range j.2.length) i [] then v0 x else v x) = a.2.map (ev v0) := ev_free fun x hx => by
        by_cases hx2 : x ∈ attF ts j (List.range j.2.length) i []
        · show (if _ then _ else _) = _
          rw [if_pos hx2]
        · show (if _ then _ else _) = _
          rw [if_neg hx2]
          refine same x (Classical.byContradiction fun q => hx2 (sub x (mem_opn.mpr ⟨?_, q⟩)))
          show x ∈ freeV (atA j o).2 []
          rw [eo]; exact hx
      rw [ea]
      exact sM a ha
    · have ea : a.2.map (ev fun x => if x ∈ attF ts j (List.range j.2.length) i [] then v0 x else v x) = a.2.map (ev v) := ev_free fun x hx => by
        have hx1 : x ∈ allV j [] o := by
          show x ∈ freeV (atA j o).2 []
          rw [eo]; exact hx
        show (if _ then _ else _) = _
        rw [if_neg fun q => hm ⟨x, mem_opn.mpr ⟨hx1, (attF_vars _ q).2.2⟩, q⟩]
      rw [ea]
      by_cases ei : a = atA j i
      · have ev0 : a.2.map (ev v) = a.2.map (ev v0) := ev_free fun x hx => by
          refine same x (Classical.byContradiction fun q => ?_)
          have hx1 : x ∈ opn j [] (clF ts j (List.range j.2.length) i []) i := mem_opn.mpr ⟨by
            show x ∈ freeV (atA j i).2 []
            rw [← ei]; exact hx, q⟩
          have hoi : o = i := Classical.byContradiction fun z => nat o ho z (eo.trans ei)
          exact hm ⟨x, hoi ▸ hx1, att_start x hx1⟩
        rw [ev0]
        exact sM a ha
      · exact off a ha ei
  · refine ⟨v, fun a ha => ?_, fun x _ => rfl⟩
    by_cases ei : a = atA j i
    · subst ei
      rcases hN _ (sN _ ha) with h | h
      · exact h
      · exact absurd h.2 hk
    · exact off a ha ei
end
/-! ### the walk's sizes -/
structure StoreFitP (store : List Fact) (body : List Atom) : Prop where
  rows : ∀ a ∈ body, ∀ r ∈ rowsFor store a.1, r.length = a.2.length
  wide : (termsOf body).length ≤ 1000
  few : store.length ≤ 1000
  many : ∀ pre post, body = pre ++ post → (fvF store pre).length ≤ 10000000
theorem StoreFitP.pre_len {store : List Fact} {body pre post : List Atom} (h : StoreFitP store body) (e : body = pre ++ post) : (fvF store pre).length ≤ 10000000 := h.many pre post e
theorem stepA_len2 (store : List Fact) (a : Atom) (m : Vals1) : (stepA store a m).length ≤ (rowsFor store a.1).length := List.length_filterMap_le ..
theorem fvF_len4 {store : List Fact} {c : Nat} (h : ∀ n, (rowsFor store n).length ≤ c) : ∀ body : List Atom, (fvF store body).length ≤ c ^ body.length := by
  refine snocInd (Nat.le_refl 1) fun body a ih => ?_
  rw [fvF_snoc, List.length_append, List.length_singleton, Nat.pow_succ]
  refine Nat.le_trans (flat_len _ fun m _ => stepA_len2 store a m) ?_
  exact Nat.mul_le_mul ih (h a.1)
theorem four_pow {n : Nat} (h : n ≤ 8) : 4 ^ n ≤ 10000000 := Nat.le_trans (Nat.pow_le_pow_right (by decide) h) (by decide)
/-- how many rows a table has in a part without duplicates -/
theorem rowsFor_sub {M fs : List Fact} (nd : M.Nodup) (h : ∀ f ∈ M, f ∈ fs) (n : Str) : (rowsFor M n).length ≤ (fs.filter fun f => decide (f.1 = n)).length := by
  unfold rowsFor
  rw [List.length_map]
  refine nodup_len (nd.filter _) fun f hf => ?_
  obtain ⟨h1, h2⟩ := List.mem_filter.mp hf
  exact List.mem_filter.mpr ⟨h f h1, h2⟩
/-! ### the facts laid beside -/
structure ExI (j : Join) (pre : List Atom) (ex : List Fact) : Prop where
  tab : ∀ f ∈ ex, ∃ a ∈ j.2, f.1 = a.1 ∧ f.2.length = a.2.length
  few : ∀ n, (ex.filter fun f => decide (f.1 = n)).length ≤ 3 * (pre.filter fun a => decide (a.1 = n)).length
  len : ex.length ≤ 3 * pre.length
theorem ExI.nil {j : Join} : ExI j [] [] := ⟨fun f hf => (by cases hf), fun n => Nat.zero_le _, Nat.zero_le _⟩
theorem ExI.step {j : Join} {pre : List Atom} {ex : List Fact} {a : Atom} (h : ExI j pre ex) (ha : a ∈ j.2) {rs : List VRow} (rl : rs.length ≤ 3) (rw2 : ∀ r ∈ rs, r.length = a.2.length) : ExI j (pre ++ [a]) (ex ++ rs.map fun r => (a.1, r)) where
  tab := fun f hf => by
    rcases List.mem_append.mp hf with z | z
    · exact h.tab f z
    · obtain ⟨r, hr, rfl⟩ := List.mem_map.mp z
      exact ⟨a, ha, rfl, rw2 r hr⟩
  few := fun n => by
    have := h.few n
    rw [List.filter_append, List.filter_append, List.length_append, List.length_append]
    by_cases e : a.1 = n
    · have h1 : ([a].filter fun a => decide (a.1 = n)).length = 1 := by simp [e]
      have h2 := List.length_filter_le (fun f : Fact => decide (f.1 = n)) (rs.map fun r => (a.1, r))
      rw [List.length_map] at h2
      omega
    · have h2 : ((rs.map fun r => ((a.1, r) : Fact)).filter fun f => decide (f.1 = n)) = [] := List.filter_eq_nil_iff.mpr fun f hf => by
        obtain ⟨r, hr, rfl⟩ := List.mem_map.mp hf
        simpa using e
      rw [h2]
      show _ + 0 ≤ _
      omega
  len := by
    have := h.len
    rw [List.length_append, List.length_append, List.length_map, List.length_singleton]
    omega
theorem nodup_filter_one {xs : List Atom} (nd : (xs.map (·.1)).Nodup) (n : Str) : (xs.filter fun a => decide (a.1 = n)).length ≤ 1 := by
  have h1 : ((xs.filter fun a => decide (a.1 = n)).map (·.1)).Nodup := nd.sublist ((List.filter_sublist ..).map _)
  have := nodup_len (ys := [n]) h1 fun x hx => by
    obtain ⟨a, ha, rfl⟩ := List.mem_map.mp hx
    rw [of_decide_eq_true (List.mem_filter.mp ha).2]
    exact List.mem_singleton.mpr rfl
  rw [List.length_map] at this
  exact this
theorem ExI.total {j : Join} {ex : List Fact} (h : ExI j j.2 ex) (sm : (j.2.map (·.1)).Nodup) (v : Str → Val) (n : Str) : ((j.2.map (fAt v) ++ ex).filter fun f => decide (f.1 = n)).length ≤ 4 := by
  rw [List.filter_append, List.length_append]
  have h1 := nodup_filter_one sm n
  have h2 := h.few n
  have h3 : ((j.2.map (fAt v)).filter fun f => decide (f.1 = n)).length = (j.2.filter fun a => decide (a.1 = n)).length := by
    rw [List.filter_map, List.length_map]
    rfl
  omega
/-! ### mendings -/
theorem Each.mono2 {α β : Type} {P R : α → β → Prop} (h : ∀ a b, P a b → R a b) : ∀ {as : List α} {bs : List β}, Each P as bs → Each R as bs
  | _, _, .nil => .nil
  | _, _, .cons a t => .cons (h _ _ a) (Each.mono2 h t)
theorem Each.of_mem {α β : Type} {P : α → β → Prop} : ∀ {as : List α} {bs : List β}, Each P as bs → ∀ b ∈ bs, ∃ a ∈ as, P a b
  | _, _, .cons a t, b, h => by
    rcases List.mem_cons.mp h with e | e
    · exact ⟨_, List.mem_cons_self, e ▸ a⟩
    · obtain ⟨x, hx, q⟩ := Each.of_mem t b e
      exact ⟨x, List.mem_cons_of_mem _ hx, q⟩
theorem Each.map_eq {α β : Type} {f : β → α} : ∀ {as : List α} {bs : List β}, Each (fun a b => f b = a) as bs → bs.map f = as
  | _, _, .nil => rfl
  | _, _, .cons a t => by rw [List.map_cons, a, Each.map_eq t]
theorem Each.map_eq2 {α β γ : Type} {f : β → γ} {g : α → γ} : ∀ {as : List α} {bs : List β}, Each (fun a b => f b = g a) as bs → bs.map f = as.map g
  | _, _, .nil => rfl
  | _, _, .cons a t => by rw [List.map_cons, a, Each.map_eq2 t]; rfl
theorem Each.of_memL {α β : Type} {P : α → β → Prop} : ∀ {as : List α} {bs : List β}, Each P as bs → ∀ a ∈ as, ∃ b ∈ bs, P a b
  | _, _, .cons a t, b, h => by
    rcases List.mem_cons.mp h with e | e
    · exact ⟨_, List.mem_cons_self, e ▸ a⟩
    · obtain ⟨x, hx, q⟩ := Each.of_memL t b e
      exact ⟨x, List.mem_cons_of_mem _ hx, q⟩
section
variable {ts : List Tb} {gs : List Fact} {ms : List Fact}
theorem mend_keyU (ga : Asc gs) (ht : ∀ f ∈ gs, hasT ts f) (em : Each MP (blocksG ts gs) ms) : KeyU ts ms := fun f hf g hg e1 e2 =>
  (mend_set ga ht em).one f g hf hg (by show (f.1, keyF ts f) = (g.1, keyF ts g); rw [e1, e2])
end
theorem Each.zip_left {α β γ : Type} {P : α → γ → Prop} : ∀ {as : List α} {bs : List β} {cs : List γ}, as.length = bs.length → Each (fun (p : α × β) c => P p.1 c) (as.zip bs) cs → Each P as cs
  | [], _, _, _, e => by rw [List.zip_nil_left] at e; cases e; exact .nil
  | a :: as, [], _, h, _ => by cases h
  | a :: as, b :: bs, _, h, e => by
    rw [List.zip_cons_cons] at e
    cases e with
    | cons x t => exact .cons x (Each.zip_left (Nat.succ.inj h) t)
theorem Each.zip_in {α β : Type} {P : α → β → Prop} : ∀ {as : List α} {bs : List β}, Each P as bs → ∀ p ∈ as.zip bs, P p.1 p.2 ∧ p.1 ∈ as ∧ p.2 ∈ bs
  | _, _, .cons a t, p, h => by
    rw [List.zip_cons_cons] at h
    rcases List.mem_cons.mp h with e | e
    · subst e; exact ⟨a, List.mem_cons_self, List.mem_cons_self⟩
    · obtain ⟨x, y, z⟩ := Each.zip_in t p e
      exact ⟨x, List.mem_cons_of_mem _ y, List.mem_cons_of_mem _ z⟩
section
variable {ts : List Tb} {gs ms af : List Fact} {u : Fact}
theorem blk_key {b : Block} (hb : b ∈ blocksG ts gs) {f : Fact} (mp : MP b f) : keyF ts f = b.b ∧ f ∈ gs := by
  obtain ⟨h1, h2⟩ := blk_place hb mp.2
  have e : ((b.a, f.2) : Fact) = f := by rw [← mp.1]
  rw [e] at h1 h2
  exact ⟨congrArg Prod.snd h1, h2⟩
theorem after_in (em : Each MP (blocksG ts gs) ms) (e4 : Each (fun (p : Block × Fact) f => MP p.1 f ∧ (p.2 ≠ u → f = p.2)) ((blocksG ts gs).zip ms) af) : Each MP (blocksG ts gs) af ∧ ∀ f ∈ af, f ∈ ms ∨ f.1 = u.1 ∧ keyF ts f = keyF ts u := by
  refine ⟨Each.zip_left em.len (e4.mono2 fun _ _ h => h.1), fun f hf => ?_⟩
  obtain ⟨p, hp, mp, h⟩ := e4.of_mem f hf
  obtain ⟨q1, q2, q3⟩ := em.zip_in p hp
  by_cases e : p.2 = u
  · refine .inr ?_
    rw [← e]
    exact ⟨mp.1.trans q1.1.symm, (blk_key q2 mp).1.trans (blk_key q2 q1).1.symm⟩
  · exact .inl (h e ▸ q3)
theorem fit_mend {j : Join} (ga : Asc gs) (ht : ∀ f ∈ gs, hasT ts f) (gl : gs.length ≤ 1000) (ar : Arity gs j.2) (w : (termsOf j.2).length ≤ 1000) (n8 : j.2.length ≤ 8) {fs : List Fact} (sub : ∀ f ∈ gs, f ∈ fs) (four : ∀ n, (fs.filter fun f => decide (f.1 = n)).length ≤ 4) (em : Each MP (blocksG ts gs) ms) : StoreFitP ms j.2 where
  rows := Arity.mono (mend_sub em) ar
  wide := w
  few := Nat.le_trans (mend_len em) gl
  many := fun pre post e => by
    have h := fvF_len4 (store := ms) (c := 4) (fun n => Nat.le_trans (rowsFor_sub (mend_nodup ga ht em) (fun f hf => sub f (mend_sub em f hf)) n) (four n)) pre
    refine Nat.le_trans h (four_pow ?_)
    rw [e, List.length_append] at n8
    omega
end
theorem atI_hs {α : Type} [DecidableEq α] [Enc α] {xs : List α} {r : α} : atI (xs.map Enc.d ++ [Enc.d r]) 0 = some (Enc.d ((xs ++ [r]).headD r)) := by
  rw [show xs.map Enc.d ++ [Enc.d r] = (xs ++ [r]).map Enc.d from by rw [List.map_append]; rfl]
  exact atI_head (by simp)
theorem headD_in {α : Type} {xs : List α} {r : α} : ((xs ++ [r]).headD r = r ∧ xs = []) ∨ (xs ++ [r]).headD r ∈ xs := by
  cases xs with
  | nil => exact .inl ⟨rfl, rfl⟩
  | cons x xs => exact .inr List.mem_cons_self
theorem inX_allG {α : Type} {xs : List α} {p : α → Bool} {Q : W → Prop} (h : Q (.d (.bool (xs.all p)))) : inX true (.d (.bool false)) (.l (xs.map fun x => PyData.bool (p x))) Q := by
  rw [show (xs.map fun x => PyData.bool (p x)) = (xs.map p).map Enc.d from (List.map_map ..).symm]
  refine inX_l1 (a := false) (xs := xs.map p) ?_
  have : decide (false ∈ xs.map p) = !xs.all p := by
    rw [Bool.eq_iff_iff, decide_eq_true_eq, Bool.not_eq_true', List.mem_map, List.all_eq_false]
    exact ⟨fun ⟨x, hx, e⟩ => ⟨x, hx, by rw [e]; decide⟩, fun ⟨x, hx, e⟩ => ⟨x, hx, by simpa using e⟩⟩
  rw [this, Bool.not_not]; exact h
/-- some valuation of os says what m says of ns -/
def agrB (m : Vals1) (os : List Vals1) (ns : List Str) : Bool := os.any fun o => m.all fun p => !memT p.1 ns || memT p o
theorem agr_yes {M N : List Fact} {body : List Atom} (aM : Arity M body) (aN : Arity N body) {A : List Str} (h : ∀ v, Sat N body v → ∃ w, Sat M body w ∧ ∀ x, x ∉ A → w x = v x) {m : Vals1} (hm : m ∈ fvF N body) {ns : List Str} (hn : ∀ x ∈ ns, x ∉ A) : agrB m (fvF M body) ns = true := by
  obtain ⟨w, sw, e⟩ := h (DL.total m) ((fvF_says body aN).mp ⟨m, hm, says_total m⟩)
  obtain ⟨o, ho, so⟩ := (fvF_says body aM).mpr sw
  unfold agrB
  rw [List.any_eq_true]
  refine ⟨o, ho, List.all_eq_true.mpr fun p hp => ?_⟩
  by_cases hx : p.1 ∈ ns
  · rw [Bool.or_eq_true]
    refine .inr (memT_yes ?_)
    have nd := fvF_nd N body m hm
    have em := look_mem nd hp
    have dom := (fvF_dom body aN m hm p.1).mp (List.mem_map.mpr ⟨p, hp, rfl⟩)
    have dom2 := (fvF_dom body aM o ho p.1).mpr dom
    cases eo : lookT o p.1 with
    | none => exact absurd dom2 (lookT_none.mp eo)
    | some u =>
      have h1 := so _ _ eo
      have h2 := e _ (hn _ hx)
      have h3 : DL.total m p.1 = p.2 := by unfold DL.total; rw [em]; rfl
      have : u = p.2 := h1.symm.trans (h2.trans h3)
      rw [this] at eo
      exact look_in eo
  · rw [memT_no hx]; rfl
end DL

/-! DL61: sorted by keys that are tuples, empty ones among them. -/
namespace KR
open PySem PySem.SeqAt PySem.W DL PyProof.Rows
section
variable {prog : Program} {w : World} {A : Around} {E : Value → Shared → Prop} {s : Shared}
theorem call_tup {Q : Value → Shared → Prop} {p q : Addr} {us vs : Array Value} {e r : Nat → Bool} (hp : s.heap.IsTuple p us) (hq : s.heap.IsTuple q vs) (he : ∀ j (h1 : j < us.size) (h2 : j < vs.size), EqAt A.in1 s us[j] vs[j] (e j))
    (hr : ∀ j (h1 : j < us.size) (h2 : j < vs.size), e j = false → RcLt A.in1 s us[j] vs[j] (r j)) (h : Q (.bool (firstLt e r (decide (us.size < vs.size)) (List.range (min us.size vs.size)))) s) : wpAny (model prog w) A (call (.builtin "tuple.__lt__") [.ref p, .ref q]) Q E s := by
  obtain ⟨⟨c1, d1, x1, s1⟩, o1, t1, n1, z1⟩ := id hp
  obtain ⟨⟨c2, d2, x2, s2⟩, o2, t2, n2, z2⟩ := id hq
  simp only at t1 z1 t2 z2
  subst t1 z1 t2 z2
  exact call_meets F.slot_tuple_lt ⟨_, o1, rfl⟩ F.entry_tuple_lt (F.args_tuple_lt_2 _ _) (tuple_ltAt p q us vs n1 n2 d1 d2 s1 s2 e r) ⟨o1, o2, he, hr, h⟩
theorem one_tup {Q : Bool → Shared → Prop} {u v : Value} {xs ys : List PyData} {as bs : List Addr} (hal : alikeAll xs ys = true) (ra : Reads s.heap u (.tuple xs) as) (rb : Reads s.heap v (.tuple ys) bs) (hu : A.units + min (PyData.tuple xs).depth (PyData.tuple ys).depth < cLine)
    (hq : Q (dataLt (.tuple xs) (.tuple ys)) s) : wpAny (model prog w) A (oneLt' true u v) Q E s := by
  cases ra with
  | @tuple l o vs n _ as1 h1 h2 h3 h4 =>
    cases rb with
    | @tuple l' o' vs' n' _ bs1 k1 k2 k3 k4 =>
      have m1 : vs.size = xs.length := by simpa using ReadsAll.length _ _ _ h4
      have m2 : vs'.size = ys.length := by simpa using ReadsAll.length _ _ _ k4
      rw [dataLt_tuple, ← firstLt_toks xs ys hal, ← m1, ← m2] at hq
      rw [oneLt'_eq]
      simp only [if_true]
      refine wpAny_bind (wpAny_cRoomFor (room_here hu) ?_)
      refine wpAny_bind (wpAny_callSpecialIfBound?_slot (T := "tuple") ⟨_, h1, h2⟩ F.slot_tuple_lt (call_tup (e := pairEq xs ys) (r := fun j => dataLt (xs.getD j .none) (ys.getD j .none)) ⟨_, h1, h2, _, h3⟩ ⟨_, k1, k2, _, k3⟩ (fun j j1 j2 => ?_) (fun j j1 j2 hj => ?_) ?_))
      · have q := eqAt_alikeAll xs ys A.in1 s vs.toList vs'.toList _ _ h4 k4 hal (room_in hu) j (by simpa using j1) (by simpa using j2)
        simpa using q
      · have q := rcLt_alikeAll xs ys A.in1 s vs.toList vs'.toList _ _ h4 k4 hal (room_in hu) j (by simpa using j1) (by simpa using j2) hj
        simpa using q
      · exact wpAny_truthy_bool hq
end
def neTup : PyData → Bool
  | .tuple (_ :: _) => true
  | _ => false
section
variable {M : Model} {A : Around} {E : Value → Shared → Prop} {s : Shared}
theorem firsts_of : ∀ {vs : List Value} {ds : List PyData}, EachIs (fun v d => ∃ as, Reads s.heap v d as) vs ds → (∀ d ∈ ds, ∃ xs, d = .tuple xs) → ∃ fs : List (Option Value), fs.map (·.isSome) = ds.map neTup ∧ ∀ {Q : List (Option Value) → Shared → Prop}, Q fs s → wpAny M A (vs.mapM firstOfTuple') Q E s
  | _, _, .nil, _ => ⟨[], rfl, fun h => by rw [List.mapM_nil]; exact wpAny_pure h⟩
  | _, _, .cons (b := d) ⟨as, r⟩ t, ht => by
    obtain ⟨fs, e1, k⟩ := firsts_of t fun d hd => ht d (List.mem_cons_of_mem _ hd)
    obtain ⟨xs, rfl⟩ := ht d (List.mem_cons_self ..)
    cases r with
    | @tuple a o us n _ _ ho hc hd hr =>
      refine ⟨us[0]? :: fs, ?_, fun {Q} h => ?_⟩
      · rw [List.map_cons, List.map_cons, e1]
        congr 1
        rw [← Array.getElem?_toList]
        cases q : us.toList with
        | nil =>
          rw [q] at hr
          cases hr
          rfl
        | cons f fr =>
          rw [q] at hr
          cases hr
          rfl
      · rw [List.mapM_cons]
        refine wpAny_bind ?_
        rw [kas_first_eq]
        refine wpAny_bind (Looks.here (show Looks M s.heap (typeOf (.ref a)) o.cls from (Looks.ld ho).andThen .now) ?_)
        rw [hc, if_neg (by first | decide | simp)]
        refine wpAny_bind (listItems_at ho hd (wpAny_pure ?_))
        exact wpAny_bind (k (wpAny_pure h))
theorem kind_of {Q : SortKind → Shared → Prop} {v0 : Value} {vs : List Value} {d0 : PyData} {ds : List PyData} (e : EachIs (fun v d => ∃ as, Reads s.heap v d as) (v0 :: vs) (d0 :: ds)) (ht : ∀ d ∈ d0 :: ds, ∃ xs, d = .tuple xs) (ne : (d0 :: ds).all neTup = false)
    (h : Q (if neTup d0 = true then general' else oneType') s) : wpAny M A (keyKind' (v0 :: vs).toArray) Q E s := by
  obtain ⟨fs, e1, k⟩ := firsts_of (M := M) (A := A) (E := E) e ht
  rw [keyKind'_eq, List.mapM_toArray, map_eq_pure_bind]
  refine wpAny_bind (wpAny_bind (k (wpAny_pure ?_)))
  have e2 : (fs.toArray.all fun x => x.isSome) = false := by
    have : fs.all (fun x => x.isSome) = (d0 :: ds).all neTup := by
      have q := congrArg (fun l => l.all id) e1
      simpa [List.all_map] using q
    rw [ne] at this
    simpa using this
  rw [if_neg (by rw [e2]; decide)]
  cases fs with
  | nil => cases e1
  | cons f0 fs =>
    have e3 : f0.isSome = neTup d0 := by
      rw [List.map_cons, List.map_cons] at e1
      exact (List.cons.inj e1).1
    have e4 : (((f0 :: fs).toArray[0]?).bind id).isSome = neTup d0 := by
      rw [← e3]
      simp
    rw [e4]
    by_cases q : neTup d0 = true
    · rw [if_pos q] at h ⊢
      exact wpAny_pure h
    · rw [if_neg q] at h ⊢
      have hT : ∀ v ∈ v0 :: vs, Looks M s.heap (typeOf v) (.type "tuple") := fun v hv => by
        obtain ⟨d, hd, as, r⟩ := e.left v hv
        obtain ⟨xs, rfl⟩ := ht d hd
        exact looks_reads r
      rw [oneTypeOnly'_eq, List.mapM_toArray, map_eq_pure_bind]
      refine wpAny_bind (wpAny_bind (wpAny_bind (kas_mapM (r := .type "tuple") _ (fun v hv Q' hq => (hT v hv).here hq) (wpAny_pure ?_))))
      have h0 : (List.map (fun _ => Value.type "tuple") (v0 :: vs)).toArray[0]? = some (.type "tuple") := by simp
      have hall : ((List.map (fun _ => Value.type "tuple") (v0 :: vs)).toArray.all fun x => x == Value.type "tuple") = true := by simp
      rw [h0]
      simp only [hall, if_true]
      exact wpAny_pure (wpAny_pure h)
end
end KR
namespace DL
open PySem PySem.Spec PyProof.Rows L2
section
variable {α : Type} [DecidableEq α] [Enc α] [SO α] [KeyE α]
theorem sortedBy_ekT (xs : List α) (k : PyData → PyData) (hk : ∀ x ∈ xs, k (Enc.d x) = KeyE.ek x) (ht : ∀ x : α, ∃ ys, (KeyE.ek x : PyData) = .tuple ys) (hl : KeyE.lv α ≤ 60 := by decide) : SortedBy (xs.map Enc.d) k k := by
  intro prog w A s ks hu hr hc
  have e1 : (xs.map Enc.d).map k = xs.map KeyE.ek := by
    rw [List.map_map]
    exact List.map_congr_left fun x hx => hk x hx
  have tup : ∀ d ∈ xs.map (KeyE.ek (α := α)), ∃ ys, d = .tuple ys := fun d hd => by
    obtain ⟨a, _, rfl⟩ := List.mem_map.mp hd
    exact ht a
  by_cases ne : (xs.map (KeyE.ek (α := α))).all KR.neTup = true
  · refine sortedBy_ek xs k hk (.inl (.inl fun d hd => ?_)) (fun x hx z => ?_) hl prog w A s ks hu hr hc
    · have q := List.all_eq_true.mp ne d hd
      obtain ⟨ys, rfl⟩ := tup d hd
      cases ys with
      | nil => cases q
      | cons y ys => exact ⟨y, ys, rfl⟩
    · obtain ⟨ys, e⟩ := ht x
      rw [e] at z
      cases z
  rw [Bool.not_eq_true] at ne
  rw [e1] at hr
  have hal := allAlike_ek xs
  have hdep : ∀ d ∈ xs.map (KeyE.ek (α := α)), A.units + d.depth < cLine := fun d hd => by
    obtain ⟨a, _, rfl⟩ := List.mem_map.mp hd
    have := KeyE.dep a
    omega
  have each : PySem.W.EachIs (fun v b => (PySem.W.dataKind s.heap (xs.map KeyE.ek)).keyOf v = some (PySem.W.keyToks (k b))) ks (xs.map Enc.d) := by
    have go : ∀ (gs : List α) (us : List Value), (∀ g ∈ gs, g ∈ xs) → PySem.W.EachIs (fun u d => ∃ as, Reads s.heap u d as) us (gs.map KeyE.ek) → PySem.W.EachIs (fun v b => (PySem.W.dataKind s.heap (xs.map KeyE.ek)).keyOf v = some (PySem.W.keyToks (k b))) us (gs.map Enc.d) := by
      intro gs
      induction gs with
      | nil => intro us _ e; cases e; exact .nil
      | cons g gs ih =>
        intro us m e
        cases e with
        | cons e1 e2 =>
          obtain ⟨as, r⟩ := e1
          have mg := m g (by simp)
          exact .cons (by rw [hk g mg]; exact PySem.W.dataKind_some hal (List.mem_map.mpr ⟨g, mg, rfl⟩) r) (ih _ (fun x hx => m x (List.mem_cons_of_mem _ hx)) e2)
    exact go xs ks (fun _ m => m) hr
  have room : ∀ {d d' : PyData}, d ∈ xs.map (KeyE.ek (α := α)) → A.units + min d.depth d'.depth < cLine := fun hd => Nat.lt_of_le_of_lt (Nat.add_le_add_left (Nat.min_le_left _ _) _) (hdep _ hd)
  cases xs with
  | nil => cases ne
  | cons x0 xs =>
    cases ks with
    | nil => cases hr
    | cons v0 vs =>
      refine ⟨(PySem.W.dataKind s.heap ((x0 :: xs).map KeyE.ek)).keyOf, ⟨fun v hv => ?_, if KR.neTup (KeyE.ek x0) = true then PyProof.Rows.general' else PyProof.Rows.oneType', ?_, fun h2 E Q hq => ?_⟩, each⟩
      · obtain ⟨b, _, hb⟩ := each.left v hv
        exact ⟨_, hb⟩
      · intro E x y a b Q ha hb hq
        obtain ⟨d, as, hd, ra, rfl⟩ := PySem.W.dataKind_inv ha
        obtain ⟨d', as', hd', rb, rfl⟩ := PySem.W.dataKind_inv hb
        have ald := hal d hd d' hd'
        obtain ⟨ys, rfl⟩ := tup d hd
        obtain ⟨zs, rfl⟩ := tup d' hd'
        by_cases q : KR.neTup (KeyE.ek x0) = true
        · rw [if_pos q, general_lt]
          exact PySem.W.oneLt_alike (fun z => by cases z) ra rb ald (by simp) (room hd) hq
        · rw [if_neg q, PyProof.Rows.keyLt'_oneType]
          exact KR.one_tup (by simpa [PySem.W.alike] using ald) ra rb (room hd) hq
      · exact KR.kind_of hr tup ne hq
end
section
variable {α : Type} [DecidableEq α] [Enc α] [SO α] [KeyE α] {Q : W → Prop} {spd : Spd} {w : W} {xs : List α}
/-- sorted by a tuple key, empty ones too -/
theorem sortKR_ekT (hs : ∀ x ∈ xs, ∀ K : W → Prop, K (.d (KeyE.ek x)) → spd [argW (.d (Enc.d x))] K fun _ _ => False) (ht : ∀ x : α, ∃ ys, (KeyE.ek x : PyData) = .tuple ys) (q : ∀ ys : List α, ys.Perm xs → Srt ys → Q (.l (ys.map Enc.d)))
    (hw : asL w = some (xs.map Enc.d) := by rfl) (hl : KeyE.lv α ≤ 60 := by decide) : sortKR spd [w] Q :=
  sortKR_gen (keyBy KeyE.ek) (keyBy KeyE.ek) hw (fun x hx K hK => hs x hx K (by rw [keyBy_at] at hK; exact hK)) (fun x _ => by rw [keyBy_at]; exact KeyE.nd x) (sortedBy_ekT xs _ (fun x _ => keyBy_at _ x) ht hl) (fun a _ b _ => by rw [keyBy_at, keyBy_at, KeyE.lt]) q
end
end DL

/-! DL62: < of data that is alike (tuples of numbers and texts). -/
namespace DL
open PySem PySem.Spec PyProof.Rows PySem.W L2
section
variable {X : Cx}
def rLtD (K : PySem.W.Frag) : R2 := fun x y H Q => ∃ d e, Dp K H x d ∧ Dp K H y e ∧ alike d e = true ∧ d ≠ .none ∧ d.depth ≤ 60 ∧ Q (.bl (dataLt d e)) H
theorem op_ltD (hu : X.A.units + 64 < cLine) : OpR X (compareOp .Lt) (rLtD X.K) := by
  intro pins s σ H x y v u Q I rx ry h
  obtain ⟨d, e, hd, he, al, nn, dep, q⟩ := h
  obtain ⟨as, r1⟩ := Dp.reads I d x v hd rx
  obtain ⟨bs, r2⟩ := Dp.reads I e y u he ry
  exact rcLt_alike d e X.A s v u as bs r1 r2 al nn (by omega) _ _ _ _ ⟨.bl _, H, I, rfl, q⟩
end
end DL
namespace DL
open PySem PySem.Spec PyProof.Rows L2
def gLtD : W → W → (W → Prop) → Prop := fun x y Q => onD2 x y fun i j => noDct i = true ∧ noDct j = true ∧ PySem.W.alike i j = true ∧ i ≠ .none ∧ i.depth ≤ 60 ∧ Q (.d (.bool (PySem.W.dataLt i j)))
theorem od_ltD {K : KW} : OpD K (rLtD K) gLtD := by
  intro G0 H0 Hx Hy G H σ ρ x y wx wy Q' Q E rx ry q k
  unfold gLtD onD2 at q
  split at q
  · rename_i i j e1 e2
    obtain ⟨n1, n2, al, nn, dep, q⟩ := q
    exact ⟨i, j, rx.asD E e1 n1, ry.asD E e2 n2, al, nn, dep, k _ (.d (.bool _)) G H (Up.refl E.gh) (.bl _) q⟩
  · exact q.elim
theorem gLtD_ek {α : Type} [SO α] [KeyE α] {a b : α} {Q : W → Prop} (nn : (KeyE.ek a : PyData) ≠ .none) (h : Q (.d (.bool (SO.lt a b)))) (hl : KeyE.lv α ≤ 60 := by decide) : gLtD (.d (KeyE.ek a)) (.d (KeyE.ek b)) Q :=
  ⟨KeyE.nd a, KeyE.nd b, KeyE.al a b, nn, Nat.le_trans (KeyE.dep a) hl, by rw [KeyE.lt]; exact h⟩
theorem shD_ekV (a : Val) : shD (KeyE.ek a) := by
  have d := KeyE.dep a
  have n := KeyE.nd a
  cases a with
  | i m => exact ⟨n, Nat.le_trans d (by decide)⟩
  | s x => exact ⟨n, Nat.le_trans d (by decide)⟩
theorem eqR_ekV {a b : Val} {k : Bool → Prop} (h : k (decide (a = b))) : eqR (KeyE.ek a) (KeyE.ek b) k := eqR_gen (shD_ekV a) (shD_ekV b) (by
  have : PyData.eqv (KeyE.ek a) (KeyE.ek b) = decide (a = b) := by
    rw [Bool.eq_iff_iff, decide_eq_true_eq]
    exact KeyE.eqv a b
  rw [this]; exact h)
/-- -1, 0 or 1 -/
def cmpV (a b : Val) : Int := if a = b then 0 else if SO.lt a b = true then -1 else 1
end DL

/-! DL63: text.index(sign); the order of values as the law finds it. -/
namespace DL
open PySem PySem.Spec PyProof.Rows L2
@[irreducible] def sxR (a b : Str) (Q : W → Prop) : Prop := ∃ (i : Nat) (rest : List Nat), Builtin.Str.occurrences a b 0 a.length 1 = i :: rest ∧ Q (.d (.int (i : Nat)))
def gSX (w : W) (ws : List W) (Q : W → Prop) : Prop := match w, ws with
  | .d (.str a), [.d (.str b)] => sxR a b Q
  | _, _ => False
def onSt (w : W) (p : Prop) : Prop := match w with
  | .d (.str _) => p
  | _ => False
theorem onSt_of {w : W} {p : Prop} (h : onSt w p) : (∃ a, w = .d (.str a)) ∧ p := by
  unfold onSt at h
  split at h
  · exact ⟨⟨_, rfl⟩, h⟩
  · exact h.elim
def dSX (t : TEd) (u : TAd) : TEd := fun ρ Q => t ρ fun w => onSt w (u ρ fun ws => gSX w ws Q)
theorem gSX_of {w : W} {ws : List W} {Q : W → Prop} (h : gSX w ws Q) : ∃ a b i rest, w = .d (.str a) ∧ ws = [.d (.str b)] ∧ Builtin.Str.occurrences a b 0 a.length 1 = i :: rest ∧ Q (.d (.int (i : Nat))) := by
  unfold gSX at h
  split at h
  · unfold sxR at h
    obtain ⟨i, rest, e, q⟩ := h
    exact ⟨_, _, i, rest, rfl, rfl, e, q⟩
  · exact h.elim
section
variable {X : Cx} {Z : Wish} {K : KW}
abbrev rSX : V → List V → Hp → VK → Prop := fun x xs H Q => ∃ a b i rest, x = .str a ∧ xs = [.str b] ∧ Builtin.Str.occurrences a b 0 a.length 1 = i :: rest ∧ Q (.int (i : Nat)) H
theorem snd_sx {te : TE} {t : TEd} {us : TA} {u : TAd} (s1 : Snd K Z te t) (s2 : SndA K Z us u) : Snd K Z (tBM K "str" rSX te us) (dSX t u) := by
  intro G0 H0 G H σ ρ Q' Q E gd h k
  refine s1 G0 H0 G H σ ρ _ _ E gd h fun v w G1 H1 u1 r1 q1 => ?_
  obtain ⟨⟨a, rfl⟩, q1⟩ := onSt_of q1
  cases r1
  refine ⟨rfl, ?_⟩
  refine s2 G0 H0 G1 H1 σ ρ _ _ (E.to u1) gd q1 fun vs ws G2 H2 u2 r2 q2 => ?_
  obtain ⟨a, b, i, rest, e1, e2, e3, q⟩ := gSX_of q2
  cases e1
  subst e2
  obtain ⟨v1, rfl, ra⟩ := r2.one
  cases ra
  exact ⟨_, b, i, rest, rfl, rfl, e3, k _ (.d (.int (i : Nat))) G2 H2 (u1.trans u2) (.int _) q⟩
theorem d_sx {o e : Expr} {t : TEd} {u : TAd} {apos cpos : Pos} (h1 : PD X Z o t) (h2 : PDA X Z [e] u) (hbase : attributeBase o "index" X.env (eval o X.env) = eval o X.env := by rfl)
    (hfew : ((backTo cpos (starEach [e] X.env)).all (fun x => !x.1) && (backToKw cpos (keywordEach [] X.env)).all (fun x => x.1.isSome) && decide ([e].length + ([] : List Keyword).length + (if ([] : List Keyword).isEmpty then 0 else 1) < 30)) = true := by rfl)
    (hline : (apos.endLine == cpos.line) = true := by rfl) (hst : starEach [e] X.env = (false, eval e X.env) :: starEach [] X.env := by rfl) (hplain : (backTo cpos (starEach [] X.env)).any (·.1) = false := by rfl) :
    PD X Z (.Call (.Attribute o "index" apos) [e] [] cpos) (dSX t u) := by
  obtain ⟨t1, p1, s1⟩ := h1
  obtain ⟨t2, p2, s2⟩ := h2
  exact ⟨_, pe_bm PySem.F.plainAttrs_str PySem.F.slot_str_index PySem.F.type_str_index mt_sindex p1 p2 hbase hfew hline hst hplain, snd_sx s1 s2⟩
end
theorem letters_at : ∀ i < 26, Builtin.Str.occurrences (Str.ofString "abcdefghijklmnopqrstuvwxyz") ⟨#[97 + i]⟩ 0 (Str.ofString "abcdefghijklmnopqrstuvwxyz").length 1 = [i] := by decide +kernel
theorem sxR_low {c : Nat} {Q : W → Prop} (h : isLow c = true) (q : Q (.d (.int ((c - 97 : Nat) : Int)))) : sxR (Str.ofString "abcdefghijklmnopqrstuvwxyz") ⟨#[c]⟩ Q := by
  have h2 : 97 ≤ c ∧ c < 123 := by
    unfold isLow at h
    simp at h
    omega
  have e := letters_at (c - 97) (by omega)
  rw [show 97 + (c - 97) = c from by omega] at e
  unfold sxR
  exact ⟨_, _, e, q⟩
/-! the order of values -/
theorem cmpV_int (m k : Int) : cmpV (.i m) (.i k) = ((if decide (k < m) = true then (1 : Int) else 0) - if decide (m < k) = true then 1 else 0) := by
  unfold cmpV
  show (if _ then _ else if decide (m < k) = true then _ else _) = _
  by_cases e : m = k
  · subst e
    rw [if_pos rfl]; simp
  · rw [if_neg (fun z => e (by cases z; rfl))]
    by_cases l : m < k
    · rw [if_pos (decide_eq_true l), if_neg (by simp; omega), if_pos (decide_eq_true l)]; rfl
    · rw [if_neg (by simpa using l), if_pos (by simp; omega), if_neg (by simpa using l)]; rfl
theorem ltL_pre {a b : List Nat} : ∀ p : List Nat, ltL (p ++ a) (p ++ b) = ltL a b
  | [] => rfl
  | x :: p => by
    show (if x = x then ltL (p ++ a) (p ++ b) else _) = _
    rw [if_pos rfl]
    exact ltL_pre p
theorem ltL_at {a b : List Nat} {i : Nat} (h1 : i < a.length) (h2 : i < b.length) (e : a.take i = b.take i) (ne : a[i] ≠ b[i]) : ltL a b = decide (a[i] < b[i]) ∧ a ≠ b := by
  refine ⟨?_, fun z => ne (by subst z; rfl)⟩
  have e1 : a = a.take i ++ a[i] :: a.drop (i + 1) := by rw [← List.drop_eq_getElem_cons h1, List.take_append_drop]
  have e2 : b = a.take i ++ b[i] :: b.drop (i + 1) := by rw [e, ← List.drop_eq_getElem_cons h2, List.take_append_drop]
  conv => lhs; rw [e1, e2]
  rw [ltL_pre]
  show (if a[i] = b[i] then _ else _) = _
  rw [if_neg ne]
  rfl
theorem ltL_end {a b : List Nat} (e : a.take (min a.length b.length) = b.take (min a.length b.length)) : ltL a b = decide (a.length < b.length) ∧ (a = b ↔ a.length = b.length) := by
  by_cases h : a.length ≤ b.length
  · rw [Nat.min_eq_left h, List.take_length] at e
    have e2 : b = a ++ b.drop a.length := by
      conv => lhs; rw [← List.take_append_drop a.length b, ← e]
    have l : ltL a b = decide (a.length < b.length) := by
      conv => lhs; rw [e2]; lhs; rw [← List.append_nil a]
      rw [ltL_pre]
      cases q : b.drop a.length with
      | nil =>
        have := congrArg List.length q
        rw [List.length_drop, List.length_nil] at this
        rw [decide_eq_false (by omega)]; rfl
      | cons x xs =>
        have := congrArg List.length q
        rw [List.length_drop, List.length_cons] at this
        rw [decide_eq_true (by omega)]; rfl
    refine ⟨l, fun z => by rw [← z], fun z => ?_⟩
    rw [e, z, List.take_length]
  · rw [Nat.min_eq_right (by omega), List.take_length] at e
    have e2 : a = b ++ a.drop b.length := by
      conv => lhs; rw [← List.take_append_drop b.length a, e]
    refine ⟨?_, fun z => by rw [← z], fun z => absurd z (by omega)⟩
    conv => lhs; rw [e2]; rhs; rw [← List.append_nil b]
    rw [ltL_pre, decide_eq_false (by omega)]
    cases a.drop b.length <;> rfl
theorem cps_len (x : Str) : x.cps.toList.length = x.length := Array.length_toList
theorem cmpV_at {x y : Str} {i : Nat} (h1 : i < x.cps.toList.length) (h2 : i < y.cps.toList.length) (e : x.cps.toList.take i = y.cps.toList.take i) (ne : x.cps.toList[i] ≠ y.cps.toList[i]) : cmpV (.s x) (.s y) = if x.cps.toList[i] < y.cps.toList[i] then -1 else 1 := by
  obtain ⟨l, n⟩ := ltL_at h1 h2 e ne
  unfold cmpV
  rw [if_neg (fun z => n (by cases z; rfl))]
  show (if ltL x.cps.toList y.cps.toList = true then _ else _) = _
  rw [l]
  by_cases q : x.cps.toList[i] < y.cps.toList[i]
  · rw [if_pos (decide_eq_true q), if_pos q]
  · rw [if_neg (by simpa using q), if_neg q]
theorem cmpV_end {x y : Str} (e : x.cps.toList.take (min x.length y.length) = y.cps.toList.take (min x.length y.length)) : cmpV (.s x) (.s y) = cmpV (.i x.length) (.i y.length) := by
  rw [← cps_len x, ← cps_len y] at e ⊢
  obtain ⟨l, n⟩ := ltL_end e
  have s2 : ∀ a b : Int, SO.lt (Val.i a) (Val.i b) = decide (a < b) := fun _ _ => rfl
  have s1 : SO.lt (Val.s x) (Val.s y) = ltL x.cps.toList y.cps.toList := rfl
  unfold cmpV
  rw [s1, s2, l]
  by_cases q : x.cps.toList = y.cps.toList
  · rw [if_pos (show Val.s x = Val.s y from by rw [str_ext q]), if_pos (by rw [n.mp q])]
  · have q3 : ¬ x.cps.toList.length = y.cps.toList.length := fun z => q (n.mpr z)
    rw [if_neg (show ¬ Val.s x = Val.s y from fun z => q (by cases z; rfl)), if_neg (show ¬ Val.i _ = Val.i _ from fun z => q3 (by injection z with z; omega))]
    by_cases q2 : x.cps.toList.length < y.cps.toList.length
    · rw [decide_eq_true q2, decide_eq_true (by omega)]
    · rw [decide_eq_false q2, decide_eq_false (by omega)]
theorem low_at {x : Str} (h : (Val.s x).ok = true) {i : Nat} (hi : i < x.cps.toList.length) : isLow x.cps.toList[i] = true := by
  have h : isW x = true := h
  unfold isW at h
  rw [Bool.and_eq_true] at h
  exact List.all_eq_true.mp h.2 _ (List.getElem_mem hi)
theorem low_ge {c : Nat} (h : isLow c = true) : 97 ≤ c := by
  unfold isLow at h
  simp at h
  omega
/-- rows, the first value that differs decides -/
def cmpW (a b : VRow) : Int := if a = b then 0 else if SO.lt a b = true then -1 else 1
theorem cmpV_zero {a b : Val} : cmpV a b = 0 ↔ a = b := by
  unfold cmpV
  by_cases e : a = b
  · rw [if_pos e]; exact ⟨fun _ => e, fun _ => rfl⟩
  · rw [if_neg e]
    refine ⟨fun z => ?_, fun z => absurd z e⟩
    split at z <;> cases z
theorem ltV_pre {a b : VRow} : ∀ p : VRow, ltL (p ++ a) (p ++ b) = ltL a b
  | [] => rfl
  | x :: p => by
    show (if x = x then ltL (p ++ a) (p ++ b) else _) = _
    rw [if_pos rfl]
    exact ltV_pre p
theorem cmpW_at {a b : VRow} {i : Nat} (h1 : i < a.length) (h2 : i < b.length) (e : a.take i = b.take i) (ne : a[i] ≠ b[i]) : cmpW a b = cmpV a[i] b[i] := by
  have e1 : a = a.take i ++ a[i] :: a.drop (i + 1) := by rw [← List.drop_eq_getElem_cons h1, List.take_append_drop]
  have e2 : b = a.take i ++ b[i] :: b.drop (i + 1) := by rw [e, ← List.drop_eq_getElem_cons h2, List.take_append_drop]
  have l : SO.lt a b = SO.lt a[i] b[i] := by
    show ltL a b = _
    conv => lhs; rw [e1, e2]
    rw [ltV_pre]
    show (if a[i] = b[i] then _ else _) = _
    rw [if_neg ne]
  unfold cmpW cmpV
  rw [if_neg (fun z => ne (by subst z; rfl)), if_neg ne, l]
theorem cmpW_end {a b : VRow} (e : a.take (min a.length b.length) = b.take (min a.length b.length)) : cmpW a b = cmpV (.i a.length) (.i b.length) := by
  have s2 : ∀ m k : Int, SO.lt (Val.i m) (Val.i k) = decide (m < k) := fun _ _ => rfl
  have key : SO.lt a b = decide (a.length < b.length) ∧ (a.length = b.length → a = b) := by
    by_cases h : a.length ≤ b.length
    · rw [Nat.min_eq_left h, List.take_length] at e
      have e2 : b = a ++ b.drop a.length := by
        conv => lhs; rw [← List.take_append_drop a.length b, ← e]
      refine ⟨?_, fun z => by rw [e, z, List.take_length]⟩
      show ltL a b = _
      conv => lhs; rw [e2]; lhs; rw [← List.append_nil a]
      rw [ltV_pre]
      cases q : b.drop a.length with
      | nil =>
        have := congrArg List.length q
        rw [List.length_drop, List.length_nil] at this
        rw [decide_eq_false (by omega)]; rfl
      | cons x xs =>
        have := congrArg List.length q
        rw [List.length_drop, List.length_cons] at this
        rw [decide_eq_true (by omega)]; rfl
    · rw [Nat.min_eq_right (by omega), List.take_length] at e
      have e2 : a = b ++ a.drop b.length := by
        conv => lhs; rw [← List.take_append_drop b.length a, e]
      refine ⟨?_, fun z => absurd z (by omega)⟩
      show ltL a b = _
      conv => lhs; rw [e2]; rhs; rw [← List.append_nil b]
      rw [ltV_pre, decide_eq_false (by omega)]
      cases a.drop b.length <;> rfl
  obtain ⟨l, n⟩ := key
  unfold cmpW cmpV
  rw [s2, l]
  by_cases q : a = b
  · rw [if_pos q, if_pos (by rw [q])]
  · have q3 : ¬ a.length = b.length := fun z => q (n z)
    rw [if_neg q, if_neg (show ¬ Val.i _ = Val.i _ from fun z => q3 (by injection z with z; omega))]
    by_cases q2 : a.length < b.length
    · rw [decide_eq_true q2, decide_eq_true (by omega)]
    · rw [decide_eq_false q2, decide_eq_false (by omega)]
def vLen : Val → Nat
  | .i _ => 0
  | .s x => x.length
def lowS (x : Str) : Bool := x.cps.toList.all isLow
theorem isW_low {x : Str} (h : isW x = true) : lowS x = true := by
  unfold isW at h
  rw [Bool.and_eq_true] at h
  exact h.2
theorem app_cps (x y : Str) : (x ++ y).cps.toList = x.cps.toList ++ y.cps.toList := Array.toList_append ..
theorem size_app (x y : Str) : (x ++ y).length = x.length + y.length := Array.size_append ..
theorem isW_pos {x : Str} (h : lowS x = true) (n : 0 < x.length) : isW x = true := by
  unfold isW
  rw [Bool.and_eq_true]
  refine ⟨?_, h⟩
  rw [Bool.not_eq_true', decide_eq_false_iff_not]
  intro e
  rw [e] at n
  exact absurd n (by decide)
theorem isW_ne {x : Str} (h : isW x = true) : 0 < x.length := by
  refine Nat.pos_of_ne_zero fun e => ?_
  unfold isW at h
  rw [Bool.and_eq_true, Bool.not_eq_true', decide_eq_false_iff_not] at h
  refine h.1 (str_ext ?_)
  have : x.cps.toList = [] := List.length_eq_zero_iff.mp (by rw [cps_len]; exact e)
  rw [this]; rfl
theorem low_app {x y : Str} (h : lowS x = true) (k : lowS y = true) : lowS (x ++ y) = true := by
  unfold lowS
  rw [app_cps, List.all_append, Bool.and_eq_true]
  exact ⟨h, k⟩
theorem low_cut {x : Str} (h : lowS x = true) (lo hi : Option Int) : lowS (cutS x lo hi) = true := by
  unfold lowS at h ⊢
  rw [List.all_eq_true] at h ⊢
  intro c hc
  have hc' : c ∈ (x.cps.toList.drop (HT.sIx x.length 0 lo)).take (HT.sIx x.length x.length hi - HT.sIx x.length 0 lo) := hc
  exact h c (List.mem_of_mem_drop (List.mem_of_mem_take hc'))
theorem cut_one (x : Str) : (cutS x none (some 1)).length ≤ 1 := by
  have e : (cutS x none (some 1)).length = ((x.cps.toList.drop (HT.sIx x.length 0 none)).take (HT.sIx x.length x.length (some ((1 : Nat) : Int)) - HT.sIx x.length 0 none)).length := by
    rw [← cps_len]; rfl
  rw [e, HT.sIx_nat, HT.sIx_none, List.length_take]
  omega
theorem filter_one {α : Type} [DecidableEq α] {r : α} : ∀ {xs : List α}, xs.Nodup → r ∈ xs → (xs.filter fun o => decide (o = r)).length = 1
  | x :: xs, nd, h => by
    rw [List.nodup_cons] at nd
    by_cases e : x = r
    · rw [List.filter_cons_of_pos (p := fun o => decide (o = r)) (decide_eq_true e)]
      have : xs.filter (fun o => decide (o = r)) = [] := List.filter_eq_nil_iff.mpr fun y hy z => nd.1 (by rw [e, ← of_decide_eq_true z]; exact hy)
      rw [this]; rfl
    · rw [List.filter_cons_of_neg (p := fun o => decide (o = r)) (by simpa using e)]
      exact filter_one nd.2 ((List.mem_cons.mp h).resolve_left fun z => e z.symm)
theorem cmpW_asc {xs : List VRow} (h : Asc xs) {k : Nat} (hk : k + 1 < xs.length) : cmpW (xs[k]'(by omega)) xs[k + 1] = -1 := by
  have l : SO.lt (xs[k]'(by omega)) xs[k + 1] = true := List.pairwise_iff_getElem.mp h k (k + 1) (by omega) hk (by omega)
  unfold cmpW
  rw [if_neg (fun z => ?_), if_pos l]
  rw [z, SO.irr] at l
  cases l
end DL

namespace Pf
open PySem PySem.Spec PyProof.Rows L2 DL
local macro_rules | `(tactic| walk_at "go1") => `(tactic| first
  | (refine callR_of ?_; simp only [List.map_cons, List.map_nil, rd_d, rd_l, rd_b, rd_w, argW_enc, argW_l, argW_r, argW_b, argW_dl, argW_dt, argW_i, argW_s, argW_o, argW_n, argW_w, argW_m, argW_rm, argW_bm, argW_dd, rd_m, rd_rm])
  | with_reducible refine eqR_int ?_ | with_reducible refine eqR_str ?_ | with_reducible refine eqR_bool ?_ | with_reducible refine eqR_enc ?_ | with_reducible refine eqR_tup ?_ | with_reducible refine eqR_list ?_
  | refine eqR_str ?_ | refine eqR_int ?_ | refine eqR_bool ?_
  | (simp only [rd_d, rd_l, rd_b]; first | refine inX_u0 ?_ | refine inX_u1 ?_ | refine inX_v0 ?_ | refine inX_v1 ?_ | refine inX_t0 ?_ | refine inX_t1 ?_)
  | refine inX_s0 ?_ | refine inX_s1 ?_
  | refine isiR_vs ?_ | refine isiR_vi ?_ | refine isiR_of true ?_ | refine isiR_of false ?_
  | with_reducible refine allR_map ?_ | with_reducible refine anyR_map ?_
  | with_reducible refine (fun (_ : _ ≤ 16777216) => ?_)
  | with_reducible refine sameR_int ?_ | with_reducible refine sameR_bool ?_ | with_reducible refine sameR_str ?_ | refine sameR_enc ?_ | refine sameR_list ?_ | refine sameR_none ?_ | refine sameR_t ?_ | refine sameR_u ?_ | refine sameR_v ?_
  | with_reducible refine iB_t ?_ | with_reducible refine iB_f ?_
  | with_reducible refine ⟨(rfl : ([] : List PyData) = []), ?_⟩ | with_reducible refine ⟨_, rfl, ?_⟩ | with_reducible refine ⟨_, .inl rfl, ?_⟩ | with_reducible refine ⟨_, .inr rfl, ?_⟩ | with_reducible refine ⟨_, _, rfl, ?_⟩ | with_reducible refine ⟨_, _, _, rfl, ?_⟩)
local macro_rules | `(tactic| walk_at "go") => `(tactic| ((conv => whnf); (first | (walk_at "go1"; walk_at "go") | skip)))
local macro_rules | `(tactic| walk_at "om") => `(tactic| first | omega | (simp only [List.length_map, List.length_append, List.length_set, List.length_take, List.length_drop, List.length_cons, List.length_nil, List.length_reverse, td_len, tl_len, one_len, sizeLine_eq] <;> omega))
local macro_rules | `(tactic| walk_at "br") => `(tactic| first | with_reducible rfl | assumption | omega | (simp only [List.length_map, List.length_append, List.length_set, List.length_take, List.length_drop, List.length_cons, List.length_nil] <;> omega) | decide)
local macro_rules | `(tactic| walk_at "sd") => `(tactic| first | assumption | exact ltT | exact ltB | exact fit_td (by rfl) | exact fit_tdS | decide | omega | (simp only [List.length_map, List.length_append, List.length_set, List.length_take, List.length_drop, List.length_cons, List.length_nil, List.length_reverse, List.length_set, rngD_len, sizeLine_eq, Int.toNat_natCast]; first | decide | omega) | (exact cdiv_of (by walk_at "om") (by walk_at "om")) | (exact cmul_r (by walk_at "om") (by walk_at "om")) | (exact cmul_l (by walk_at "om") (by walk_at "om")) | walk_at "om")
local macro_rules | `(tactic| walk_at "gn1") => `(tactic| first
  | ((with_reducible refine hd_callL ?_); refine callL_of ?_; simp only [List.map_cons, List.map_nil, argD, rd_d, rd_l, rd_b, rd_w, argW_l, argW_r, argW_b, argW_w, argW_m, argW_rm, argW_bm, rd_m, rd_rm, pair_enc])
  | ((with_reducible refine hd_callR ?_); refine callR_of ?_; simp only [List.map_cons, List.map_nil, rd_d, rd_l, rd_b, rd_w, argW_enc, argW_l, argW_r, argW_b, argW_dl, argW_dt, argW_i, argW_s, argW_o, argW_n, argW_w, argW_m, argW_rm, argW_bm, argW_dd, rd_m, rd_rm, pair_enc, argW_val])
  | ((with_reducible refine hd_iB ?_); first | with_reducible refine iB_t ?_ | with_reducible refine iB_f ?_ | with_reducible refine iB_nt ?_ | with_reducible refine iB_nf ?_ | with_reducible refine iB_nyes (by walk_at "br") ?_ | with_reducible refine iB_dno (by walk_at "br") ?_ | with_reducible refine iB_dyes (by walk_at "br") ?_ | with_reducible refine iB_nno (by walk_at "br") ?_ | with_reducible refine iB_yes (by assumption) ?_ | with_reducible refine iB_no (by assumption) ?_ | with_reducible refine iB_nb1 (by assumption) ?_ | with_reducible refine iB_nb0 (by assumption) ?_ | refine iB_no rfl ?_ | refine iB_yes rfl ?_)
  | ((with_reducible refine hd_ex ?_); first | (with_reducible refine ⟨_, ixN_k (by walk_at "sd"), ?_⟩; try rw [set_enc]) | with_reducible refine ⟨(rfl : ([] : List PyData) = []), ?_⟩ | with_reducible refine ⟨_, rfl, ?_⟩ | with_reducible refine ⟨_, _, rfl, ?_⟩ | with_reducible refine ⟨_, _, _, rfl, ?_⟩ | with_reducible refine ⟨_, _, rfl, ltT, ?_⟩ | with_reducible refine ⟨_, _, rfl, ltB, ?_⟩ | with_reducible refine ⟨_, _, _, rfl, ltT, ?_⟩ | with_reducible refine ⟨_, _, _, rfl, ltB, ?_⟩ | with_reducible refine ⟨_, _, _, _, rfl, ?_⟩ | with_reducible refine ⟨_, _, _, _, _, rfl, ?_⟩ | with_reducible refine ⟨_, atI_0 (by walk_at "sd"), ?_⟩ | with_reducible refine ⟨_, atI_end (by walk_at "sd"), ?_⟩ | with_reducible refine ⟨_, atI_at (by walk_at "sd"), ?_⟩ | with_reducible refine ⟨_, atI_n (by walk_at "sd"), ?_⟩)
  | ((with_reducible refine hd_and ?_); first | with_reducible refine ⟨(rfl : ([] : List PyData) = []), ?_⟩ | with_reducible refine And.intro (by walk_at "sd") ?_)
  | ((with_reducible refine hd_eqR ?_); first | with_reducible refine eqR_int ?_ | with_reducible refine eqR_str ?_ | with_reducible refine eqR_bool ?_ | with_reducible refine eqR_enc ?_ | with_reducible refine eqR_tup ?_ | with_reducible refine eqR_list ?_ | refine eqR_str ?_ | refine eqR_int ?_ | refine eqR_bool ?_ | refine eqR_enc (α := Val) ?_ | refine eqR_enc (α := Term) ?_)
  | ((try simp only [rd_d, rd_l, rd_b]); (with_reducible refine hd_inX ?_); first | refine inX_u0 ?_ | refine inX_u1 ?_ | refine inX_v0 ?_ | refine inX_v1 ?_ | refine inX_t0 ?_ | refine inX_t1 ?_ | with_reducible refine inX_m0 ?_ | with_reducible refine inX_m1 ?_ | refine inX_s0 ?_ | refine inX_s1 ?_ | refine inX_u0 (α := Str) ?_ | refine inX_u1 (α := Str) ?_ | refine inX_v0 (α := Str) ?_ | refine inX_v1 (α := Str) ?_ | refine inX_t0 (α := Str) ?_ | refine inX_t1 (α := Str) ?_ | refine inX_u0 (α := Int) ?_ | refine inX_u1 (α := Int) ?_ | refine inX_v0 (α := Int) ?_ | refine inX_v1 (α := Int) ?_ | refine inX_t0 (α := Int) ?_ | refine inX_t1 (α := Int) ?_)
  | ((with_reducible refine hd_isiR ?_); first | refine isiR_vs ?_ | refine isiR_vi ?_ | refine isiR_of true ?_ | refine isiR_of false ?_)
  | with_reducible refine allR_map ?_ | with_reducible refine anyR_map ?_
  | with_reducible refine lenI (fun _ => ?_) | with_reducible refine (fun (_ : _ ≤ 16777216) => ?_)
  | ((with_reducible refine hd_sameR ?_); first | with_reducible refine sameR_int ?_ | with_reducible refine sameR_bool ?_ | with_reducible refine sameR_str ?_ | refine sameR_enc ?_ | refine sameR_list ?_ | refine sameR_none ?_ | refine sameR_t ?_ | refine sameR_u ?_ | refine sameR_v ?_)
  | simp only [dput_tdSB, msetd_tdS, mgot_tdS, dget_tdS, dhas_tdS]
  | ((with_reducible refine hd_idxR ?_); refine idxR_enc (by rfl) (by assumption) ?_))
local macro_rules | `(tactic| walk_at "gn") => `(tactic| ((conv => whnf); (first | (walk_at "gn1"; walk_at "gn") | skip)))
def topS (i : Nat) : Stmt := PySem.Challenge.pw_everymending_k02_order_of_values.main.body.getD i (.Pass ⟨0, 0, 0, 0⟩)
/-! ### value_key -/
abbrev s_p_value_key : Stmt := topS 1
abbrev n_p_value_key : List Str := ["value"]
theorem sc_p_value_key : FnScope n_p_value_key ["value"] (defScope s_p_value_key) := ⟨rfl, rfl, rfl, by decide +kernel, rfl, by decide +kernel, by decide +kernel⟩

/-! ### row_key -/
abbrev s_p_row_key : Stmt := topS 2
abbrev n_p_row_key : List Str := ["row", "value"]
theorem sc_p_row_key : FnScope n_p_row_key ["row"] (defScope s_p_row_key) := ⟨rfl, rfl, rfl, by decide +kernel, rfl, by decide +kernel, by decide +kernel⟩

/-! ### compare_values -/
abbrev s_p_compare_values : Stmt := topS 3
abbrev n_p_compare_values : List Str := ["left", "right", "one", "other"]
theorem sc_p_compare_values : FnScope n_p_compare_values ["left", "right"] (defScope s_p_compare_values) := ⟨rfl, rfl, rfl, by decide +kernel, rfl, by decide +kernel, by decide +kernel⟩

/-! ### sorted_rows -/
abbrev s_p_sorted_rows : Stmt := topS 4
abbrev n_p_sorted_rows : List Str := ["rows", "found", "row"]
theorem sc_p_sorted_rows : FnScope n_p_sorted_rows ["rows"] (defScope s_p_sorted_rows) := ⟨rfl, rfl, rfl, by decide +kernel, rfl, by decide +kernel, by decide +kernel⟩

/-! ### _law_draws -/
abbrev s_w_draws : Stmt := topS 6
abbrev n_w_draws : List Str := ["_law_script", "_law_many", "_law_cells", "_law_rest", "_law_draws_here", "_law_k", "_law_at", "_law_mixed", "_law_cell"]
theorem sc_w_draws : FnScope n_w_draws ["_law_script", "_law_many"] (defScope s_w_draws) := ⟨rfl, rfl, rfl, by decide +kernel, rfl, by decide +kernel, by decide +kernel⟩

/-! ### _law_take -/
abbrev s_w_take : Stmt := topS 7
abbrev n_w_take : List Str := ["_law_draws_here", "_law_many"]
theorem sc_w_take : FnScope n_w_take ["_law_draws_here", "_law_many"] (defScope s_w_take) := ⟨rfl, rfl, rfl, by decide +kernel, rfl, by decide +kernel, by decide +kernel⟩

/-! ### _law_pick -/
abbrev s_w_pick : Stmt := topS 8
abbrev n_w_pick : List Str := ["_law_draws_here", "_law_row"]
theorem sc_w_pick : FnScope n_w_pick ["_law_draws_here", "_law_row"] (defScope s_w_pick) := ⟨rfl, rfl, rfl, by decide +kernel, rfl, by decide +kernel, by decide +kernel⟩

/-! ### _law_size -/
abbrev s_w_size : Stmt := topS 9
abbrev n_w_size : List Str := ["_law_draws_here", "_law_script", "_law_kind", "_law_number", "_law_k"]
theorem sc_w_size : FnScope n_w_size ["_law_draws_here", "_law_script"] (defScope s_w_size) := ⟨rfl, rfl, rfl, by decide +kernel, rfl, by decide +kernel, by decide +kernel⟩

/-! ### _law_same -/
abbrev s_w_same : Stmt := topS 10
abbrev n_w_same : List Str := ["_law_actual", "_law_due", "_law_k"]
theorem sc_w_same : FnScope n_w_same ["_law_actual", "_law_due"] (defScope s_w_same) := ⟨rfl, rfl, rfl, by decide +kernel, rfl, by decide +kernel, by decide +kernel⟩

/-! ### _law_words -/
abbrev s_w_words : Stmt := topS 11
abbrev n_w_words : List Str := ["_law_draws_here", "_law_many", "_law_words_here", "_law_k", "_law_size_here", "_law_word", "_law_j", "_law_other"]
theorem sc_w_words : FnScope n_w_words ["_law_draws_here", "_law_many"] (defScope s_w_words) := ⟨rfl, rfl, rfl, by decide +kernel, rfl, by decide +kernel, by decide +kernel⟩

/-! ### _law_any_value -/
abbrev s_w_any_value : Stmt := topS 12
abbrev n_w_any_value : List Str := ["_law_draws_here", "_law_script", "_law_words_here"]
theorem sc_w_any_value : FnScope n_w_any_value ["_law_draws_here", "_law_script", "_law_words_here"] (defScope s_w_any_value) := ⟨rfl, rfl, rfl, by decide +kernel, rfl, by decide +kernel, by decide +kernel⟩

/-! ### _law_before -/
abbrev s_w_before : Stmt := topS 13
abbrev n_w_before : List Str := ["_law_one_value", "_law_other", "_law_k", "_law_letters"]
theorem sc_w_before : FnScope n_w_before ["_law_one_value", "_law_other"] (defScope s_w_before) := ⟨rfl, rfl, rfl, by decide +kernel, rfl, by decide +kernel, by decide +kernel⟩

/-! ### _law_near_value -/
abbrev s_w_near_value : Stmt := topS 14
abbrev n_w_near_value : List Str := ["_law_draws_here", "_law_script", "_law_words_here", "_law_seen", "_law_near"]
theorem sc_w_near_value : FnScope n_w_near_value ["_law_draws_here", "_law_script", "_law_words_here", "_law_seen"] (defScope s_w_near_value) := ⟨rfl, rfl, rfl, by decide +kernel, rfl, by decide +kernel, by decide +kernel⟩

/-! ### _law_row_before -/
abbrev s_w_row_before : Stmt := topS 15
abbrev n_w_row_before : List Str := ["_law_row", "_law_other", "_law_k"]
theorem sc_w_row_before : FnScope n_w_row_before ["_law_row", "_law_other"] (defScope s_w_row_before) := ⟨rfl, rfl, rfl, by decide +kernel, rfl, by decide +kernel, by decide +kernel⟩

/-! ### law -/
abbrev s_the_law : Stmt := topS 16
abbrev n_the_law : List Str := ["_law_script", "_law_draws_here", "_law_words_here", "_law_seen", "_law_k", "_law_left", "_law_right", "_law_rows", "_law_row", "_law_passed", "_law_found", "_law_kept", "_law_j", "_law_other"]
theorem sc_the_law : FnScope n_the_law ["_law_script"] (defScope s_the_law) := ⟨rfl, rfl, rfl, by decide +kernel, rfl, by decide +kernel, by decide +kernel⟩

/-- what the top has written -/
structure Txt (K : PySem.W.Frag) (mg : Str → Option Value) where
  m_abs : mg "abs" = none
  m_bool : mg "bool" = none
  m_int : mg "int" = none
  m_isinstance : mg "isinstance" = none
  m_len : mg "len" = none
  m_list : mg "list" = none
  m_max : mg "max" = none
  m_min : mg "min" = none
  m_range : mg "range" = none
  m_sorted : mg "sorted" = none
  m_str : mg "str" = none
  m_tuple : mg "tuple" = none
  f_p_value_key : Addr
  fd_p_value_key : FuncData
  F_p_value_key : Fun K "value_key" "value_key" s_p_value_key f_p_value_key fd_p_value_key
  g_p_value_key : mg "value_key" = some (.ref f_p_value_key)
  f_p_row_key : Addr
  fd_p_row_key : FuncData
  F_p_row_key : Fun K "row_key" "row_key" s_p_row_key f_p_row_key fd_p_row_key
  g_p_row_key : mg "row_key" = some (.ref f_p_row_key)
  f_p_compare_values : Addr
  fd_p_compare_values : FuncData
  F_p_compare_values : Fun K "compare_values" "compare_values" s_p_compare_values f_p_compare_values fd_p_compare_values
  g_p_compare_values : mg "compare_values" = some (.ref f_p_compare_values)
  f_p_sorted_rows : Addr
  fd_p_sorted_rows : FuncData
  F_p_sorted_rows : Fun K "sorted_rows" "sorted_rows" s_p_sorted_rows f_p_sorted_rows fd_p_sorted_rows
  g_p_sorted_rows : mg "sorted_rows" = some (.ref f_p_sorted_rows)
  f_w_draws : Addr
  fd_w_draws : FuncData
  F_w_draws : Fun K "_law_draws" "_law_draws" s_w_draws f_w_draws fd_w_draws
  g_w_draws : mg "_law_draws" = some (.ref f_w_draws)
  f_w_take : Addr
  fd_w_take : FuncData
  F_w_take : Fun K "_law_take" "_law_take" s_w_take f_w_take fd_w_take
  g_w_take : mg "_law_take" = some (.ref f_w_take)
  f_w_pick : Addr
  fd_w_pick : FuncData
  F_w_pick : Fun K "_law_pick" "_law_pick" s_w_pick f_w_pick fd_w_pick
  g_w_pick : mg "_law_pick" = some (.ref f_w_pick)
  f_w_size : Addr
  fd_w_size : FuncData
  F_w_size : Fun K "_law_size" "_law_size" s_w_size f_w_size fd_w_size
  g_w_size : mg "_law_size" = some (.ref f_w_size)
  f_w_same : Addr
  fd_w_same : FuncData
  F_w_same : Fun K "_law_same" "_law_same" s_w_same f_w_same fd_w_same
  g_w_same : mg "_law_same" = some (.ref f_w_same)
  f_w_words : Addr
  fd_w_words : FuncData
  F_w_words : Fun K "_law_words" "_law_words" s_w_words f_w_words fd_w_words
  g_w_words : mg "_law_words" = some (.ref f_w_words)
  f_w_any_value : Addr
  fd_w_any_value : FuncData
  F_w_any_value : Fun K "_law_any_value" "_law_any_value" s_w_any_value f_w_any_value fd_w_any_value
  g_w_any_value : mg "_law_any_value" = some (.ref f_w_any_value)
  f_w_before : Addr
  fd_w_before : FuncData
  F_w_before : Fun K "_law_before" "_law_before" s_w_before f_w_before fd_w_before
  g_w_before : mg "_law_before" = some (.ref f_w_before)
  f_w_near_value : Addr
  fd_w_near_value : FuncData
  F_w_near_value : Fun K "_law_near_value" "_law_near_value" s_w_near_value f_w_near_value fd_w_near_value
  g_w_near_value : mg "_law_near_value" = some (.ref f_w_near_value)
  f_w_row_before : Addr
  fd_w_row_before : FuncData
  F_w_row_before : Fun K "_law_row_before" "_law_row_before" s_w_row_before f_w_row_before fd_w_row_before
  g_w_row_before : mg "_law_row_before" = some (.ref f_w_row_before)
  f_the_law : Addr
  fd_the_law : FuncData
  F_the_law : Fun K "law" "law" s_the_law f_the_law fd_the_law
  g_the_law : mg "law" = some (.ref f_the_law)
section
variable {P : Program} {w : World} {K : PySem.W.Frag} {mg : Str → Option Value} {base : Heap}
theorem bd_p_value_key (T : Txt K mg) : Binds K T.fd_p_value_key ["value"] [] := T.F_p_value_key.binds fun _ _ _ _ _ _ us hl => match us, hl with | [_], _ => rfl
theorem bd_p_row_key (T : Txt K mg) : Binds K T.fd_p_row_key ["row"] [] := T.F_p_row_key.binds fun _ _ _ _ _ _ us hl => match us, hl with | [_], _ => rfl
theorem bd_p_compare_values (T : Txt K mg) : Binds K T.fd_p_compare_values ["left", "right"] [] := T.F_p_compare_values.binds fun _ _ _ _ _ _ us hl => match us, hl with | [_, _], _ => rfl
theorem bd_p_sorted_rows (T : Txt K mg) : Binds K T.fd_p_sorted_rows ["rows"] [] := T.F_p_sorted_rows.binds fun _ _ _ _ _ _ us hl => match us, hl with | [_], _ => rfl
theorem bd_w_draws (T : Txt K mg) : Binds K T.fd_w_draws ["_law_script", "_law_many"] [] := T.F_w_draws.binds fun _ _ _ _ _ _ us hl => match us, hl with | [_, _], _ => rfl
theorem bd_w_take (T : Txt K mg) : Binds K T.fd_w_take ["_law_draws_here", "_law_many"] [] := T.F_w_take.binds fun _ _ _ _ _ _ us hl => match us, hl with | [_, _], _ => rfl
theorem bd_w_pick (T : Txt K mg) : Binds K T.fd_w_pick ["_law_draws_here", "_law_row"] [] := T.F_w_pick.binds fun _ _ _ _ _ _ us hl => match us, hl with | [_, _], _ => rfl
theorem bd_w_size (T : Txt K mg) : Binds K T.fd_w_size ["_law_draws_here", "_law_script"] [] := T.F_w_size.binds fun _ _ _ _ _ _ us hl => match us, hl with | [_, _], _ => rfl
theorem bd_w_same (T : Txt K mg) : Binds K T.fd_w_same ["_law_actual", "_law_due"] [] := T.F_w_same.binds fun _ _ _ _ _ _ us hl => match us, hl with | [_, _], _ => rfl
theorem bd_w_words (T : Txt K mg) : Binds K T.fd_w_words ["_law_draws_here", "_law_many"] [] := T.F_w_words.binds fun _ _ _ _ _ _ us hl => match us, hl with | [_, _], _ => rfl
theorem bd_w_any_value (T : Txt K mg) : Binds K T.fd_w_any_value ["_law_draws_here", "_law_script", "_law_words_here"] [] := T.F_w_any_value.binds fun _ _ _ _ _ _ us hl => match us, hl with | [_, _, _], _ => rfl
theorem bd_w_before (T : Txt K mg) : Binds K T.fd_w_before ["_law_one_value", "_law_other"] [] := T.F_w_before.binds fun _ _ _ _ _ _ us hl => match us, hl with | [_, _], _ => rfl
theorem bd_w_near_value (T : Txt K mg) : Binds K T.fd_w_near_value ["_law_draws_here", "_law_script", "_law_words_here", "_law_seen"] [] := T.F_w_near_value.binds fun _ _ _ _ _ _ us hl => match us, hl with | [_, _, _, _], _ => rfl
theorem bd_w_row_before (T : Txt K mg) : Binds K T.fd_w_row_before ["_law_row", "_law_other"] [] := T.F_w_row_before.binds fun _ _ _ _ _ _ us hl => match us, hl with | [_, _], _ => rfl
theorem bd_the_law (T : Txt K mg) : Binds K T.fd_the_law ["_law_script"] [] := T.F_the_law.binds fun _ _ _ _ _ _ us hl => match us, hl with | [_], _ => rfl
/-! ## value_key -/
def sp_p_value_key : Spd := fun ws Q _ => ∃ v : Val, ws = [Ed v] ∧ Q (.d (KeyE.ek v))
theorem ok_p_value_key (T : Txt K mg) : FnOk P w K mg base CX0 1 T.f_p_value_key T.fd_p_value_key ["value"] (toSp ⟨K, w⟩ sp_p_value_key) :=
  okD T.F_p_value_key sc_p_value_key (fun ws Q E h => by
    first | (obtain ⟨rfl, _⟩ := h; rfl) | (obtain ⟨_, rfl, _⟩ := h; rfl) | (obtain ⟨_, _, rfl, _⟩ := h; rfl) | (obtain ⟨_, _, _, rfl, _⟩ := h; rfl) | (obtain ⟨_, _, _, _, rfl, _⟩ := h; rfl) | (obtain ⟨_, _, _, _, _, rfl, _⟩ := h; rfl) | (obtain ⟨_, _, _, _, _, _, rfl, _⟩ := h; rfl) | (obtain ⟨_, _, _, _, _, _, _, rfl, _⟩ := h; rfl) | (obtain ⟨_, _, _, _, _, _, _, _, rfl, _⟩ := h; rfl) | (obtain ⟨_, _, _, _, _, _, _, _, _, rfl, _⟩ := h; rfl) | (obtain ⟨_, _, _, _, _, _, _, _, _, _, rfl, _⟩ := h; rfl) | (obtain ⟨_, _, _, _, _, _, _, _, _, _, _, rfl, _⟩ := h; rfl) | (unfold sp_p_value_key at h; split at h; all_goals first | rfl | exact h.elim)) (fun cdv A outer s H E Z hr =>
      (dss_cons (ds_ifN (ds_if (dt_val (d_isiN (d_isi .str T.m_isinstance T.m_str (by decide +kernel) (dv 0))))
      (dss_one (ds_ret (d_tup (da_cons d_int (da_cons d_int (da_cons (dv 0) da_nil))))))
      dss_nil))
      (dss_one (ds_ret (d_tup (da_cons d_int (da_cons (dv 0) (da_cons d_str da_nil))))))))
    (fun ws Q E h => by
    obtain ⟨v, rfl, h⟩ := h
    cases v with
    | i n =>
      walk_at "go"
      refine iB_no rfl ?_
      walk_at "go"
      exact h
    | s x =>
      walk_at "go"
      refine iB_yes rfl ?_
      walk_at "go"
      exact h)
/-! ## row_key -/
def sp_p_row_key : Spd := fun ws Q _ => ∃ r : VRow, ws = [Ed r] ∧ Q (.d (KeyE.ek r))
theorem ok_p_row_key (T : Txt K mg) : FnOk P w K mg base CX0 2 T.f_p_row_key T.fd_p_row_key ["row"] (toSp ⟨K, w⟩ sp_p_row_key) :=
  okD T.F_p_row_key sc_p_row_key (fun ws Q E h => by
    first | (obtain ⟨rfl, _⟩ := h; rfl) | (obtain ⟨_, rfl, _⟩ := h; rfl) | (obtain ⟨_, _, rfl, _⟩ := h; rfl) | (obtain ⟨_, _, _, rfl, _⟩ := h; rfl) | (obtain ⟨_, _, _, _, rfl, _⟩ := h; rfl) | (obtain ⟨_, _, _, _, _, rfl, _⟩ := h; rfl) | (obtain ⟨_, _, _, _, _, _, rfl, _⟩ := h; rfl) | (obtain ⟨_, _, _, _, _, _, _, rfl, _⟩ := h; rfl) | (obtain ⟨_, _, _, _, _, _, _, _, rfl, _⟩ := h; rfl) | (obtain ⟨_, _, _, _, _, _, _, _, _, rfl, _⟩ := h; rfl) | (obtain ⟨_, _, _, _, _, _, _, _, _, _, rfl, _⟩ := h; rfl) | (obtain ⟨_, _, _, _, _, _, _, _, _, _, _, rfl, _⟩ := h; rfl) | (unfold sp_p_row_key at h; split at h; all_goals first | rfl | exact h.elim)) (fun cdv A outer s H E Z hr =>
      (dss_one (ds_ret (d_cty call_tuple_ofX cd_tuple T.m_tuple (by decide +kernel) (da_cons (d_lcN (d_lc (own := [("value", 1)]) rfl sc_p_row_key.nd (di_any (dv 0)) (blkOk_by (N := n_p_row_key) (sc := defScope s_p_row_key) (by decide +kernel)) (fun _ _ _ _ _ => (dg_name (i := 1) sc_p_row_key.nd)) (fun _ _ _ _ _ => dts_nil) (fun _ _ _ _ _ => (d_callN (d_call (ok_p_value_key T) (hr.mono (by decide)) T.g_p_value_key T.F_p_value_key.kp (bd_p_value_key T) pass0 (da_cons (dv 1) da_nil)))))) da_nil)))))
    (fun ws Q E h => by
    obtain ⟨r, rfl, h⟩ := h
    walk_at "go"
    refine lcR_map (xs := r) (fun v => KeyE.ek v) (fun v hv k z hk => ?_) ?_
    · walk_at "go"
      exact hk
    · walk_at "go"
      exact h)
/-! ## compare_values -/
-- @ltd
def sp_p_compare_values : Spd := fun ws Q _ => ∃ a b : Val, ws = [Ed a, Ed b] ∧ Q (.d (.int (cmpV a b)))
theorem ok_p_compare_values (T : Txt K mg) : FnOk P w K mg base CX0 2 T.f_p_compare_values T.fd_p_compare_values ["left", "right"] (toSp ⟨K, w⟩ sp_p_compare_values) :=
  okD T.F_p_compare_values sc_p_compare_values (fun ws Q E h => by
    first | (obtain ⟨rfl, _⟩ := h; rfl) | (obtain ⟨_, rfl, _⟩ := h; rfl) | (obtain ⟨_, _, rfl, _⟩ := h; rfl) | (obtain ⟨_, _, _, rfl, _⟩ := h; rfl) | (obtain ⟨_, _, _, _, rfl, _⟩ := h; rfl) | (obtain ⟨_, _, _, _, _, rfl, _⟩ := h; rfl) | (obtain ⟨_, _, _, _, _, _, rfl, _⟩ := h; rfl) | (obtain ⟨_, _, _, _, _, _, _, rfl, _⟩ := h; rfl) | (obtain ⟨_, _, _, _, _, _, _, _, rfl, _⟩ := h; rfl) | (obtain ⟨_, _, _, _, _, _, _, _, _, rfl, _⟩ := h; rfl) | (obtain ⟨_, _, _, _, _, _, _, _, _, _, rfl, _⟩ := h; rfl) | (obtain ⟨_, _, _, _, _, _, _, _, _, _, _, rfl, _⟩ := h; rfl) | (unfold sp_p_compare_values at h; split at h; all_goals first | rfl | exact h.elim)) (fun cdv A outer s H E Z hr =>
      (dss_cons (ds_set (i := 2) sc_p_compare_values.nd (d_callN (d_call (ok_p_value_key T) (hr.mono (by decide)) T.g_p_value_key T.F_p_value_key.kp (bd_p_value_key T) pass0 (da_cons (dv 0) da_nil))))
      (dss_cons (ds_set (i := 3) sc_p_compare_values.nd (d_callN (d_call (ok_p_value_key T) (hr.mono (by decide)) T.g_p_value_key T.F_p_value_key.kp (bd_p_value_key T) pass0 (da_cons (dv 1) da_nil))))
      (dss_cons (ds_ifN (ds_if (dt_cmp (op_eqD hr.units) od_eqN (dv 2) (dv 3))
      (dss_one (ds_ret d_int))
      dss_nil))
      (dss_one (ds_ret (d_ifN (d_ifExp (dt_cmp (op_ltD hr.units) od_ltD (dv 2) (dv 3)) (d_neg d_int) d_int))))))))
    (fun ws Q E h => by
    obtain ⟨a, b, rfl, h⟩ := h
    walk_at "gn"
    refine eqR_ekV ?_
    refine iB_d (fun e => ?_) (fun e => ?_)
    · walk_at "gn"
      rw [show cmpV a b = 0 from if_pos e] at h
      exact h
    · walk_at "gn"
      refine ⟨KeyE.nd a, KeyE.nd b, KeyE.al a b, (by cases a <;> exact fun z => (by cases z)), Nat.le_trans (KeyE.dep a) (by decide), ?_⟩
      rw [KeyE.lt]
      have h2 : cmpV a b = if SO.lt a b = true then -1 else 1 := if_neg e
      refine iB_b (fun e2 => ?_) (fun e2 => ?_)
      · walk_at "gn"
        rw [h2, if_pos e2] at h
        exact h
      · walk_at "gn"
        rw [h2, if_neg (by rw [e2]; decide)] at h
        exact h)
/-! ## sorted_rows -/
def sp_p_sorted_rows : Spd := fun ws Q _ => ∃ rs : List VRow, ws = [.b (rs.map Enc.d)] ∧ rs.length ≤ 10000000 ∧ Q (.l ((setF rs).map Enc.d))
theorem ok_p_sorted_rows (T : Txt K mg) : FnOk P w K mg base CX0 5 T.f_p_sorted_rows T.fd_p_sorted_rows ["rows"] (toSp ⟨K, w⟩ sp_p_sorted_rows) :=
  okD T.F_p_sorted_rows sc_p_sorted_rows (fun ws Q E h => by
    first | (obtain ⟨rfl, _⟩ := h; rfl) | (obtain ⟨_, rfl, _⟩ := h; rfl) | (obtain ⟨_, _, rfl, _⟩ := h; rfl) | (obtain ⟨_, _, _, rfl, _⟩ := h; rfl) | (obtain ⟨_, _, _, _, rfl, _⟩ := h; rfl) | (obtain ⟨_, _, _, _, _, rfl, _⟩ := h; rfl) | (obtain ⟨_, _, _, _, _, _, rfl, _⟩ := h; rfl) | (obtain ⟨_, _, _, _, _, _, _, rfl, _⟩ := h; rfl) | (obtain ⟨_, _, _, _, _, _, _, _, rfl, _⟩ := h; rfl) | (obtain ⟨_, _, _, _, _, _, _, _, _, rfl, _⟩ := h; rfl) | (obtain ⟨_, _, _, _, _, _, _, _, _, _, rfl, _⟩ := h; rfl) | (obtain ⟨_, _, _, _, _, _, _, _, _, _, _, rfl, _⟩ := h; rfl) | (unfold sp_p_sorted_rows at h; split at h; all_goals first | rfl | exact h.elim)) (fun cdv A outer s H E Z hr =>
      (dss_cons (ds_setDc (i := 1) (own := [("row", 2)]) hr.u65 rfl sc_p_sorted_rows.nd (sw_dict rfl rfl rfl (by decide +kernel)) (di_any (dv 0)) (blkOk_by (N := n_p_sorted_rows) (sc := defScope s_p_sorted_rows) (by decide +kernel)) (fun _ _ _ _ _ => (dg_name (i := 2) sc_p_sorted_rows.nd)) (fun _ _ _ _ _ => dts_nil) (fun _ _ _ _ _ => (dv 2)) (fun _ _ _ _ _ => d_bl))
      (dss_one (ds_ret (d_sortKN (d_sortK (ok_p_row_key T) (hr.mono (by decide)) T.g_p_row_key (bd_p_row_key T) T.m_sorted (da_cons (d_cty (call_list_of.or (call_listR rfl)) cd_listY T.m_list (by decide +kernel) (da_cons (dv 1) da_nil)) da_nil)))))))
    (fun ws Q E h => by
    obtain ⟨rs, rfl, rl, h⟩ := h
    walk_at "gn"
    refine dcR_td (xs := rs) (β := VRow) (γ := Bool) (fun r => some (r, true)) (fun r hr k z h1 h2 => ?_) ?_
    · walk_at "gn"
      exact h1 _ rfl
    walk_at "gn"
    rw [td_keys, List.filterMap_eq_map' (f := fun r : VRow => (r, true))]
    obtain ⟨nd, mm⟩ := putT_fold (rs.map fun r : VRow => (r, true)) [] List.nodup_nil
    have mm : ∀ k, k ∈ (((rs.map fun r : VRow => (r, true)).foldl (fun kvs p => putT kvs p.1 p.2) []).map (·.1)) ↔ k ∈ rs := fun k => by
      rw [mm, List.map_map]
      simp
    generalize (((rs.map fun r : VRow => (r, true)).foldl (fun kvs p => putT kvs p.1 p.2) []).map (·.1)) = zs at nd mm ⊢
    refine sortKR_ekT (xs := zs) (fun r hr K hK => ?_) (fun r => ⟨_, rfl⟩) fun ys hp hs => ?_
    · walk_at "gn"
      exact hK
    have e : ys = setF rs := setF_of (hs.asc (hp.nodup_iff.mpr nd)) fun k => hp.mem_iff.trans (mm k)
    rw [e]
    exact h)
/-! ## _law_draws -/
-- @wrap dss_drw
-- @cut 2
/-- the draws -/
def sp_w_draws : Spd := fun ws Q _ => match ws with
  | [.b xs, .d (.int m)] => ∃ ns : List Int, xs = ns.map .int ∧ ns.length ≤ 63 ∧ 0 ≤ m ∧ m ≤ 100000 ∧ Q .drw
  | _ => False
def mid_w_draws (w0 w1 : Option W) (ρ : En) : Prop := ∃ cs : List Int, 0 < cs.length ∧ cs.length ≤ 63 ∧ ρ = [w0, w1, some (.l (cs.map .int)), none, none, none, none, none, none]
def inv_w_draws (w0 w1 : Option W) (cs : List Int) (i : Nat) (ρ : En) : Prop := ∃ (rs ds : List Int) (o5 o6 o7 : Option W), ρ = [w0, w1, some (.l (cs.map .int)), some (.l (rs.map .int)), some (.l (ds.map .int)), o5, o6, o7, none] ∧
  rs.length = cs.length ∧ ds.length ≤ i ∧ ∀ x ∈ ds, 0 ≤ x
theorem grown_w_draws {ds : List Int} {i : Nat} {y : Int} (hl : ds.length ≤ i) (h : ∀ x ∈ ds, 0 ≤ x) (hy : 0 ≤ y) : (ds ++ [y]).length ≤ i + 1 ∧ ∀ x ∈ ds ++ [y], 0 ≤ x := by
  refine ⟨by rw [List.length_append]; simp; omega, fun x hx => ?_⟩
  rcases List.mem_append.mp hx with h' | h'
  · exact h x h'
  · have e : x = y := by simpa using h'
    rw [e]; exact hy
theorem ok_w_draws (T : Txt K mg) : FnOk P w K mg base CX0 1 T.f_w_draws T.fd_w_draws ["_law_script", "_law_many"] (toSp ⟨K, w⟩ sp_w_draws) :=
  okD T.F_w_draws sc_w_draws (fun ws Q E h => by
    unfold sp_w_draws at h
    split at h
    all_goals first | rfl | exact h.elim) (fun cdv A outer s H E Z hr =>
      (dss_drw (dss_cons (ds_setLc (i := 2) (own := [("_law_cell", 8)]) rfl sc_w_draws.nd (sw_true rfl rfl rfl (by decide +kernel)) (di_seq (dv 0)) (blkOk_by (N := n_w_draws) (sc := defScope s_w_draws) (by decide +kernel)) (fun _ _ _ _ _ => (dg_name (i := 8) sc_w_draws.nd)) (fun _ _ _ _ _ => dts_nil) (fun _ _ _ _ _ => (d_cty call_int1 cd_int T.m_int (by decide +kernel) (da_cons (dv 8) da_nil))))
      (dss_cut (ds_if (dt_cmp (op_eqD hr.units) od_eq (d_cb call_lenX cd_len T.m_len (by decide +kernel) (da_cons (dv 2) da_nil)) d_int)
      (dss_one (ds_app 2 d_int))
      dss_nil)
      (dss_cons (ds_set (i := 3) sc_w_draws.nd (d_cty call_list_of cd_list T.m_list (by decide +kernel) (da_cons (dv 2) da_nil)))
      (dss_cons (ds_set (i := 4) sc_w_draws.nd (d_lst da_nil))
      (dss_cons (ds_for rfl (di_rng1 T.m_range (da_cons (dv 1) da_nil)) (dg_name (i := 5) sc_w_draws.nd)
      (dss_cons (ds_set (i := 6) sc_w_draws.nd (d_op op_mod od_mod (dv 5) (d_cb call_lenX cd_len T.m_len (by decide +kernel) (da_cons (dv 2) da_nil))))
      (dss_one (ds_if (dt_cmp op_ge od_ge (d_ix (dv 2) (dv 6)) (d_op op_pow od_pow d_int d_int))
      (dss_cons (ds_app 4 (d_op op_mod od_mod (d_cty call_int1 cd_int T.m_int (by decide +kernel) (da_cons (d_ix (dv 3) (dv 6)) da_nil)) d_int))
      (dss_one (ds_seti 3 (d_op op_fdiv od_fdiv (d_ix (dv 3) (dv 6)) d_int) (dv 6))))
      (dss_cons (ds_set (i := 7) sc_w_draws.nd (d_op op_mod od_mod (d_cty call_int1 cd_int T.m_int (by decide +kernel) (da_cons (d_op op_addA od_add (d_op op_addA od_add (d_op op_mulA od_mulA (d_ix (dv 2) (dv 6)) d_int) (d_op op_mulA od_mulA (dv 5) d_int)) d_int) da_nil)) d_int))
      (dss_one (ds_app 4 (d_op op_mod od_mod (d_cty call_int1 cd_int T.m_int (by decide +kernel) (da_cons (d_op op_addA od_add (d_op op_addA od_add (d_op op_mulA od_mulA (dv 7) (dv 7)) (d_op op_mulA od_mulA d_int (dv 7))) (dv 5)) da_nil)) d_int))))))))
      (dss_cons (ds_rev 4)
      (dss_one (ds_retv 4))))))))))
    (fun ws Q E h => by
    unfold sp_w_draws at h
    split at h
    · obtain ⟨ns, rfl, hl, h0, h1, h⟩ := h
      rename_i m
      have sz : (sizeLine : Nat) = 16777216 := sizeLine_eq
      refine ⟨fun i acc => acc = (ns.take i).map PyData.int, rfl, fun i x acc hx ha => ?_, fun acc ha => ?_⟩
      · obtain ⟨n, hn, rfl⟩ := map_some hx
        show acc ++ [PyData.int n] = (ns.take (i + 1)).map PyData.int
        rw [take_succ_map hn, ← ha]
      · have ha' : acc = (ns.take (ns.map PyData.int).length).map PyData.int := ha
        rw [List.length_map, List.take_length] at ha'
        subst ha'
        refine ⟨mid_w_draws (some (.b (ns.map .int))) (some (.d (.int m))), ?_, ?_⟩
        · refine fun _ => ifd (fun e => ?_) (fun e => ?_)
          · have e1 : ns = [] := by
              have := congrArg List.length (List.length_eq_zero_iff.mp (by simpa using e : (ns.map PyData.int).length = 0))
              cases ns with
              | nil => rfl
              | cons a r => simp at e; omega
            subst e1
            exact ⟨by show 0 < sizeLine; omega, [0], by decide, by decide, rfl⟩
          · refine ⟨ns, ?_, hl, rfl⟩
            cases ns with
            | nil => exact absurd rfl e
            | cons a r => simp
        · rintro ρ' ⟨cs, c0, c1, rfl⟩
          refine ⟨by omega, by omega, inv_w_draws (some (.b (ns.map .int))) (some (.d (.int m))) cs, ⟨cs, [], none, none, none, rfl, rfl, Nat.le_refl _, fun x hx => by cases hx⟩, ?_, ?_⟩
          · rintro i x ρ' hx ⟨rs, ds, o5, o6, o7, rfl, hr, hd, hp⟩
            obtain ⟨hi, rfl⟩ := rngD_some hx
            have lc : ((cs.map PyData.int).length : Int) = cs.length := by rw [List.length_map]
            have b0 : 0 ≤ ((0 : Int) + (i : Nat)) % ((cs.map PyData.int).length : Int) := Int.emod_nonneg _ (by omega)
            have b1 : ((0 : Int) + (i : Nat)) % ((cs.map PyData.int).length : Int) < cs.length := by
              have := Int.emod_lt_of_pos ((0 : Int) + (i : Nat)) (show (0 : Int) < ((cs.map PyData.int).length : Int) by omega)
              omega
            refine fun _ => ⟨by omega, ?_⟩
            obtain ⟨c, _, _, hc⟩ := atI_map (f := PyData.int) b0 b1
            obtain ⟨r, _, _, hrr⟩ := atI_map (f := PyData.int) (xs := rs) b0 (by rw [hr]; exact b1)
            have ix : ixN (rs.map PyData.int).length (((0 : Int) + (i : Nat)) % ((cs.map PyData.int).length : Int)) = some (((0 : Int) + (i : Nat)) % ((cs.map PyData.int).length : Int)).toNat := ixN_nat b0 (by rw [show (rs.map PyData.int).length = rs.length from List.length_map .., hr]; exact b1)
            have hds : (ds.map PyData.int).length < sizeLine := by rw [List.length_map]; omega
            refine ⟨_, hc, ⟨by decide, by decide, by decide⟩, ifd (fun e => ?_) (fun e => ?_)⟩
            · obtain ⟨g1, g2⟩ := grown_w_draws hd hp (Int.emod_nonneg r (by decide : (1000 : Int) ≠ 0))
              refine ⟨_, hrr, by decide, hds, _, hrr, ⟨by decide, by decide⟩, _, ix, ?_⟩
              exact ⟨rs.set (((0 : Int) + (i : Nat)) % ((cs.map PyData.int).length : Int)).toNat (r / 1000), ds ++ [r % 1000], _, _, _, by rw [List.map_set, List.map_append]; rfl, by rw [List.length_set]; exact hr, g1, g2⟩
            · have k0 : 0 ≤ (c * 48271 + ((0 : Int) + (i : Nat)) * 69621 + 11) % 2147483647 := Int.emod_nonneg _ (by decide)
              have k1 := Int.emod_lt_of_pos (c * 48271 + ((0 : Int) + (i : Nat)) * 69621 + 11) (by decide : (0 : Int) < 2147483647)
              refine ⟨_, hc, .inr ⟨by decide, by decide⟩, .inr ⟨by decide, by decide⟩, by decide, .inl ⟨by omega, by omega⟩, .inl ⟨by decide, by decide⟩, by decide, hds, ?_⟩
              obtain ⟨g1, g2⟩ := grown_w_draws hd hp (Int.emod_nonneg ((c * 48271 + ((0 : Int) + (i : Nat)) * 69621 + 11) % 2147483647 * ((c * 48271 + ((0 : Int) + (i : Nat)) * 69621 + 11) % 2147483647) + 3 * ((c * 48271 + ((0 : Int) + (i : Nat)) * 69621 + 11) % 2147483647) + ((0 : Int) + (i : Nat))) (by decide : (1000003 : Int) ≠ 0))
              exact ⟨rs, _, _, _, _, by rw [List.map_append]; rfl, hr, g1, g2⟩
          · rintro ρ' ⟨rs, ds, o5, o6, o7, rfl, hr, hd, hp⟩
            rw [rngD_len] at hd
            exact ⟨ds.reverse, by rw [List.map_reverse], ⟨by rw [List.length_reverse]; omega, fun x hx => hp x (List.mem_reverse.mp hx)⟩, h⟩
    · exact h.elim)
/-! ## _law_take -/
/-- the next draw -/
def sp_w_take : Spd := fun ws Q _ => match ws with
  | [.drw, .d (.int n)] => 0 < n ∧ ∀ r : Int, 0 ≤ r → r < n → Q (.d (.int r))
  | _ => False
theorem ok_w_take (T : Txt K mg) : FnOk P w K mg base CX0 1 T.f_w_take T.fd_w_take ["_law_draws_here", "_law_many"] (toSp ⟨K, w⟩ sp_w_take) := by
  have sc := sc_w_take
  refine T.F_w_take.ok sc (fun vs H Q E h => ?_) (fun cdv A outer s H vs Q E hr h => ?_)
  · obtain ⟨G, ws, Q', E', gh, a, h, _⟩ := h
    rw [a.len]
    unfold sp_w_take at h
    split at h
    · rfl
    · exact h.elim
  · obtain ⟨G, ws, Q', E', gh, a, h, kq, _⟩ := h
    unfold sp_w_take at h
    split at h
    · obtain ⟨hn, h⟩ := h
      rename_i n
      cases a with | cons a1 a =>
      cases a with | cons a2 a =>
      cases a
      obtain ⟨p, rfl, gp⟩ := a1
      cases a2
      refine ⟨_, pss_opn (pss_cons (ps_if (pt_cmpR op_eq (pe_callB call_len_seq (by rfl) T.m_len (by decide +kernel) (pa_cons (pv 0) pa_nil)) pe_int (nomark _)) (pss_one (ps_ret pe_int)) pss_nil)
        (pss_one (ps_ret (pe_op op_mod (pe_callTy call_int1 (by rfl) T.m_int (by decide +kernel) (pa_cons (pe_bm0 PySem.F.plainAttrs_list PySem.F.slot_list_pop PySem.F.type_list_pop mt_pop (pv 0)) pa_nil)) (pv 1))))), ?_⟩
      refine ⟨p, gh _ _ gp, fun ns ok => ?_⟩
      have e0 : upd (upd H p (.lst (ns.map V.int))) p (drwO p) = H := by
        rw [upd_upd]
        funext b
        by_cases hb : b = p
        · subst hb; rw [upd_same]; exact (gh _ _ gp).symm
        · rw [upd_ne hb]
      refine ⟨.ref p, rfl, p, ns.map V.int, rfl, .inl (SqL.of upd_same), rfl, _, rfl, ifd (fun e => ?_) (fun e => ?_)⟩
      · refine ⟨ns, ok, upd_same, ?_⟩
        rw [e0]
        exact kq (.int 0) (.d (.int 0)) G H (Up.refl gh) (.int 0) (h 0 (by omega) hn)
      · have e1 : ns ≠ [] := fun z => by subst z; exact e rfl
        have e2 : (ns.map V.int)[(ns.map V.int).length - 1]? = some (.int (ns.getLast e1)) := by
          rw [← List.getLast?_eq_getElem?, List.getLast?_map, List.getLast?_eq_getLast e1]; rfl
        refine ⟨.ref p, rfl, .inl ⟨rfl, _, SqL.of upd_same⟩, p, _, _, rfl, rfl, upd_same, e2, .inl ⟨_, rfl, .int n, rfl, _, n, rfl, rfl, hn, ns.dropLast, ⟨?_, fun x hx => ok.2 x (List.dropLast_subset _ hx)⟩, ?_, ?_⟩⟩
        · have := ok.1
          rw [List.length_dropLast]; omega
        · rw [upd_same, List.map_dropLast]
        · rw [upd_upd, upd_upd]
          rw [upd_upd] at e0
          rw [e0]
          exact kq _ (.d (.int _)) G H (Up.refl gh) (.int _) (h _ (Int.emod_nonneg _ (by omega)) (Int.emod_lt_of_pos _ hn))
    · exact h.elim

/-! ## _law_pick -/
/-- one of the items, whichever -/
def sp_w_pick : Spd := fun ws Q _ => match ws with
  | [.drw, w] => ∃ xs, asQ w = some xs ∧ 0 < xs.length ∧ ∀ x ∈ xs, Q (.d x)
  | _ => False
theorem atI_in {xs : List PyData} {r : Int} (h0 : 0 ≤ r) (h1 : r < xs.length) : ∃ d, atI xs r = some d ∧ d ∈ xs := by
  obtain ⟨n, rfl⟩ := Int.eq_ofNat_of_zero_le h0
  have hn : n < xs.length := by omega
  exact ⟨xs[n], atI_nat (List.getElem?_eq_getElem hn), List.getElem_mem hn⟩
theorem ok_w_pick (T : Txt K mg) : FnOk P w K mg base CX0 2 T.f_w_pick T.fd_w_pick ["_law_draws_here", "_law_row"] (toSp ⟨K, w⟩ sp_w_pick) :=
  okD T.F_w_pick sc_w_pick (fun ws Q E h => by
    unfold sp_w_pick at h
    split at h
    all_goals first | rfl | exact h.elim) (fun cdv A outer s H E Z hr =>
      (dss_one (ds_ret (d_ix (dv 1) (d_call (ok_w_take T) (hr.mono (by decide)) T.g_w_take T.F_w_take.kp (bd_w_take T) pass0 (da_cons (dv 0) (da_cons (d_cb call_lenX cd_len T.m_len (by decide +kernel) (da_cons (dv 1) da_nil)) da_nil)))))))
    (fun ws Q E h => by
    unfold sp_w_pick at h
    split at h
    · rename_i w
      obtain ⟨xs, e, hl, h⟩ := h
      have key : ∀ r : Int, 0 ≤ r → r < xs.length → ∃ d, atI xs r = some d ∧ Q (.d d) := fun r h0 h1 => by
        obtain ⟨d, e, m⟩ := atI_in h0 h1
        exact ⟨d, e, h d m⟩
      cases w with
      | d y =>
        cases y <;> cases e
        · exact fun _ => ⟨by omega, key⟩
        · exact fun _ => ⟨by omega, key⟩
      | l ys => cases e; exact fun _ => ⟨by omega, key⟩
      | b ys => cases e; exact fun _ => ⟨by omega, key⟩
      | r ys => cases e; exact fun _ => ⟨by omega, key⟩
      | drw => cases e
      | x y => cases e
    · exact h.elim)
/-! ## _law_size -/
/-- some size -/
def sp_w_size : Spd := fun ws Q _ => match ws with
  | [.drw, .b xs] => ∃ ns : List Int, xs = ns.map .int ∧ ns.length ≤ 63 ∧ ∀ i : Int, 0 ≤ i → Q (.d (.int i))
  | _ => False
def inv_w_size (w1 : W) (k : Int) (_ : Nat) (ρ : En) : Prop := ∃ (n : Int) (o : Option W), 0 ≤ n ∧ ρ = [some .drw, some w1, some (.d (.int k)), some (.d (.int n)), o]
theorem ok_w_size (T : Txt K mg) : FnOk P w K mg base CX0 2 T.f_w_size T.fd_w_size ["_law_draws_here", "_law_script"] (toSp ⟨K, w⟩ sp_w_size) :=
  okD T.F_w_size sc_w_size (fun ws Q E h => by
    unfold sp_w_size at h
    split at h
    all_goals first | rfl | exact h.elim) (fun cdv A outer s H E Z hr =>
      (dss_cons (ds_set (i := 2) sc_w_size.nd (d_call (ok_w_take T) (hr.mono (by decide)) T.g_w_take T.F_w_take.kp (bd_w_take T) pass0 (da_cons (dv 0) (da_cons d_int da_nil))))
      (dss_cons (ds_if (dt_cmp op_lt od_lt (dv 2) d_int)
      (dss_one (ds_ret (d_call (ok_w_take T) (hr.mono (by decide)) T.g_w_take T.F_w_take.kp (bd_w_take T) pass0 (da_cons (dv 0) (da_cons d_int da_nil)))))
      dss_nil)
      (dss_cons (ds_if (dt_cmp (op_eqD hr.units) od_eq (dv 2) d_int)
      (dss_one (ds_ret (d_call (ok_w_take T) (hr.mono (by decide)) T.g_w_take T.F_w_take.kp (bd_w_take T) pass0 (da_cons (dv 0) (da_cons d_int da_nil)))))
      dss_nil)
      (dss_cons (ds_if (dt_w (dw_or (dt_cmp (op_eqD hr.units) od_eq (dv 2) d_int) (dw_or1 (dt_cmp (op_eqD hr.units) od_eq (d_cb call_lenX cd_len T.m_len (by decide +kernel) (da_cons (dv 1) da_nil)) d_int))))
      (dss_cons (ds_set (i := 3) sc_w_size.nd d_int)
      (dss_cons (ds_for rfl (di_rng1 T.m_range (da_cons d_int da_nil)) (dg_name (i := 4) sc_w_size.nd)
      (dss_one (ds_set (i := 3) sc_w_size.nd (d_op op_addA od_add (d_op op_mulA od_mulA (dv 3) d_int) (d_call (ok_w_take T) (hr.mono (by decide)) T.g_w_take T.F_w_take.kp (bd_w_take T) pass0 (da_cons (dv 0) (da_cons d_int da_nil)))))))
      (dss_one (ds_retv 3))))
      dss_nil)
      (dss_one (ds_ret (d_cb call_abs cd_abs T.m_abs (by decide +kernel) (da_cons (d_cty call_int1 cd_int T.m_int (by decide +kernel) (da_cons (d_ix (dv 1) (d_call (ok_w_take T) (hr.mono (by decide)) T.g_w_take T.F_w_take.kp (bd_w_take T) pass0 (da_cons (dv 0) (da_cons (d_cb call_lenX cd_len T.m_len (by decide +kernel) (da_cons (dv 1) da_nil)) da_nil)))) da_nil)) da_nil)))))))))
    (fun ws Q E h => by
    unfold sp_w_size at h
    split at h
    · obtain ⟨ns, rfl, hl, h⟩ := h
      refine ⟨by decide, fun k k0 k1 => ?_⟩
      refine ifd (fun e => ?_) (fun e => ?_)
      · exact ⟨by decide, fun r r0 _ => h r r0⟩
      · refine ifd (fun e => ?_) (fun e => ?_)
        · exact ⟨by decide, fun r r0 _ => h r r0⟩
        · refine ifd (fun e => ?_) (fun e _ => ifd (fun e2 => ?_) (fun e2 => ?_))
          · refine ⟨by decide, by decide, inv_w_size (.b (ns.map .int)) k, ⟨0, none, by decide, rfl⟩, ?_, ?_⟩
            · rintro i x ρ' hx ⟨n, o, n0, rfl⟩
              refine ⟨.inr ⟨by decide, by decide⟩, by decide, fun r r0 r1 => ?_⟩
              exact ⟨n * 1000 + r, _, by omega, rfl⟩
            · rintro ρ' ⟨n, o, n0, rfl⟩
              exact h n n0
          · refine ⟨by decide, by decide, inv_w_size (.b (ns.map .int)) k, ⟨0, none, by decide, rfl⟩, ?_, ?_⟩
            · rintro i x ρ' hx ⟨n, o, n0, rfl⟩
              refine ⟨.inr ⟨by decide, by decide⟩, by decide, fun r r0 r1 => ?_⟩
              exact ⟨n * 1000 + r, _, by omega, rfl⟩
            · rintro ρ' ⟨n, o, n0, rfl⟩
              exact h n n0
          · have e1 : ns ≠ [] := fun z => by subst z; exact e2 rfl
            have e2 : 0 < ns.length := List.length_pos_iff.mpr e1
            refine fun _ => ⟨?_, fun r r0 r1 => ?_⟩
            · show (0 : Int) < ((ns.map PyData.int).length : Nat)
              rw [List.length_map]; omega
            · rw [List.length_map] at r1
              obtain ⟨c, _, _, hc⟩ := atI_map (f := PyData.int) r0 r1
              refine ⟨_, hc, ?_⟩
              refine h _ ?_
              split <;> omega
    · exact h.elim)
/-! ## _law_same -/
-- @rec 12
/-- the same, kinds and all: n bounds the depth -/
def spn_w_same (n : Nat) : Spd := fun ws Q _ => match ws with
  | [a, b] => sameR n a b Q
  | _ => False
abbrev sp_w_same : Spd := spn_w_same 12
theorem void_w_same (a b : W) (Q : W → Prop) : ¬ sameR 0 a b Q := by
  intro h; obtain ⟨_, _, _, _, _, _, h, _⟩ := sameR_un h; omega
theorem okn_w_same (T : Txt K mg) : ∀ n, FnOk P w K mg base CX0 n T.f_w_same T.fd_w_same ["_law_actual", "_law_due"] (toSp ⟨K, w⟩ (spn_w_same n))
  | 0 => fnok_void fun ws Q E h => by
    unfold spn_w_same at h
    split at h
    all_goals first | exact h.elim | exact absurd h (void_w_same _ _ _)
  | n + 1 => by
   have IH := okn_w_same T n
   exact okD T.F_w_same sc_w_same (fun ws Q E h => by
    unfold spn_w_same at h
    split at h
    all_goals first | rfl | exact h.elim) (fun cdv A outer s H E Z hr =>
      (dss_cons (ds_if (dt_val (d_isi2 .tup .lst T.m_isinstance T.m_tuple (by decide +kernel) T.m_list (by decide +kernel) (dv 1)))
      (dss_cons (ds_if (dt_w (dw_or (dt_cmp (op_neD hr.units) od_ne (d_isi .tup T.m_isinstance T.m_tuple (by decide +kernel) (dv 0)) (d_isi .tup T.m_isinstance T.m_tuple (by decide +kernel) (dv 1))) (dw_or1 (dt_cmp (op_neD hr.units) od_ne (d_isi .lst T.m_isinstance T.m_list (by decide +kernel) (dv 0)) (d_isi .lst T.m_isinstance T.m_list (by decide +kernel) (dv 1))))))
      (dss_one (ds_ret d_bl))
      dss_nil)
      (dss_cons (ds_if (dt_cmp (op_neD hr.units) od_ne (d_cb call_lenX cd_len T.m_len (by decide +kernel) (da_cons (dv 0) da_nil)) (d_cb call_lenX cd_len T.m_len (by decide +kernel) (da_cons (dv 1) da_nil)))
      (dss_one (ds_ret d_bl))
      dss_nil)
      (dss_one (ds_ret (d_cmp (op_notInA hr.u65) od_notIn d_bl (d_lc (own := [("_law_k", 2)]) rfl sc_w_same.nd (di_rng1 T.m_range (da_cons (d_cb call_lenX cd_len T.m_len (by decide +kernel) (da_cons (dv 1) da_nil)) da_nil)) (blkOk_by (N := n_w_same) (sc := defScope s_w_same) (by decide +kernel)) (fun _ _ _ _ _ => (dg_name (i := 2) sc_w_same.nd)) (fun _ _ _ _ _ => dts_nil) (fun _ _ _ _ _ => (d_call IH (hr.mono (Nat.le_refl _)) T.g_w_same T.F_w_same.kp (bd_w_same T) pass0 (da_cons (d_ix (dv 0) (dv 2)) (da_cons (d_ix (dv 1) (dv 2)) da_nil))))))))))
      dss_nil)
      (dss_cons (ds_if (dt_w (dw_or (dt_cmp (op_neD hr.units) od_ne (d_isi .bool T.m_isinstance T.m_bool (by decide +kernel) (dv 0)) (d_isi .bool T.m_isinstance T.m_bool (by decide +kernel) (dv 1))) (dw_or1 (dt_cmp (op_neD hr.units) od_ne (d_isi .int T.m_isinstance T.m_int (by decide +kernel) (dv 0)) (d_isi .int T.m_isinstance T.m_int (by decide +kernel) (dv 1))))))
      (dss_one (ds_ret d_bl))
      dss_nil)
      (dss_cons (ds_if (dt_w (dw_or (dt_cmp (op_neD hr.units) od_ne (d_isi .str T.m_isinstance T.m_str (by decide +kernel) (dv 0)) (d_isi .str T.m_isinstance T.m_str (by decide +kernel) (dv 1))) (dw_or1 (dt_cmp (op_neD hr.units) od_ne (d_cmp op_isN od_isN (dv 0) d_non) (d_cmp op_isN od_isN (dv 1) d_non)))))
      (dss_one (ds_ret d_bl))
      dss_nil)
      (dss_one (ds_ret (d_cmp (op_eqD hr.units) od_eq (dv 0) (dv 1))))))))
    (fun ws Q E h => by
    unfold spn_w_same at h
    split at h
    · rename_i a b
      replace h := sameR_un h
      obtain ⟨x, y, ex, ey, nx, ny, dy, h⟩ := h
      have hF : x ≠ y → Q (.d (.bool false)) := fun e => by rw [sameB_ne e] at h; exact h
      cases b with
      | b ys =>
        cases ey
        cases a with
        | b xs =>
          cases ex
          refine fun l1 l2 => ifb (fun e => ?_) (fun e => ?_)
          · exact hF (by intro z; injection z with z; subst z; simp at e)
          · have el : xs.length = ys.length := by have e : (xs.length : Int) = ys.length := (by simpa using e); omega
            have sx : ∀ i, i < ys.length → xs.getD i .none ∈ xs := fun i hi => by
              rw [List.getD_eq_getElem?_getD, List.getElem?_eq_getElem (by omega)]; exact List.getElem_mem _
            have sy : ∀ i, i < ys.length → ys.getD i .none ∈ ys := fun i hi => by
              rw [List.getD_eq_getElem?_getD, List.getElem?_eq_getElem hi]; exact List.getElem_mem _
            refine fun l3 => ⟨by omega, by omega, fun i acc => acc = (List.range i).map (fun i => PyData.bool (sameB (xs.getD i .none) (ys.getD i .none))), rfl, fun i z acc hz ha => ?_, fun acc ha => ?_⟩
            · obtain ⟨hi, rfl⟩ := rngD_some hz
              have hi : i < ys.length := by omega
              refine ⟨_, atI_ok (by omega), _, atI_ok hi, sameR_of ⟨_, _, argW_asA (noDict_ne (noDict_mem nx (sx i hi))), argW_asA (noDict_ne (noDict_mem ny (sy i hi))), noDict_mem nx (sx i hi), noDict_mem ny (sy i hi), ?_, ?_⟩⟩
              · have := depth_mem (sy i hi)
                simp only [PyData.depth] at dy
                omega
              · show acc ++ [_] = _
                rw [List.range_succ, List.map_append, ← ha]; rfl
            · have ha' : acc = (List.range (rngD 0 (ys.length : Int).toNat).length).map (fun i => PyData.bool (sameB (xs.getD i .none) (ys.getD i .none))) := ha
              rw [rngD_len, Int.toNat_natCast] at ha'
              have e2 : acc = (((List.range ys.length).map fun i => sameB (xs.getD i .none) (ys.getD i .none)).map PyData.bool) := by rw [ha', List.map_map]; rfl
              refine ⟨trivial, ?_, ?_⟩
              · rw [e2]; exact ⟨noDcts_bools _, by rw [depthAll_bools]; decide⟩
              · show Q (.d (.bool (!inD (.bool false) acc)))
                rw [e2, notin_false, ← sameB_list el]
                exact h
        | d u => cases u <;> cases ex <;> first | exact hF (by intro e; cases e) | exact ⟨rfl, rfl, hF (by intro e; cases e)⟩
        | _ => cases ex
      | d v =>
        cases a with
        | b xs => cases ex; cases v <;> cases ey <;> first | exact hF (by intro e; cases e) | exact ⟨rfl, rfl, hF (by intro e; cases e)⟩
        | d u =>
          cases u <;> cases ex <;> cases v <;> cases ey <;> first | exact hF (by intro e; cases e) | exact ⟨rfl, rfl, hF (by intro e; cases e)⟩ | skip
          · rw [sameB_self] at h; exact ⟨rfl, rfl, trivial, trivial, h⟩
          · rw [sameB_bool] at h; exact ⟨rfl, rfl, h⟩
          · rw [sameB_int] at h; exact ⟨rfl, rfl, h⟩
          · rw [sameB_str] at h; exact ⟨rfl, rfl, h⟩
          · rename_i xs ys
            refine fun l1 l2 => ifb (fun e => ?_) (fun e => ?_)
            · exact hF (by intro z; injection z with z; subst z; simp at e)
            · have el : xs.length = ys.length := by have e : (xs.length : Int) = ys.length := (by simpa using e); omega
              have sx : ∀ i, i < ys.length → xs.getD i .none ∈ xs := fun i hi => by
                rw [List.getD_eq_getElem?_getD, List.getElem?_eq_getElem (by omega)]; exact List.getElem_mem _
              have sy : ∀ i, i < ys.length → ys.getD i .none ∈ ys := fun i hi => by
                rw [List.getD_eq_getElem?_getD, List.getElem?_eq_getElem hi]; exact List.getElem_mem _
              refine fun l3 => ⟨by omega, by omega, fun i acc => acc = (List.range i).map (fun i => PyData.bool (sameB (xs.getD i .none) (ys.getD i .none))), rfl, fun i z acc hz ha => ?_, fun acc ha => ?_⟩
              · obtain ⟨hi, rfl⟩ := rngD_some hz
                have hi : i < ys.length := by omega
                refine ⟨_, atI_ok (by omega), _, atI_ok hi, sameR_of ⟨_, _, argW_asA (noDict_ne (noDict_memT nx (sx i hi))), argW_asA (noDict_ne (noDict_memT ny (sy i hi))), noDict_memT nx (sx i hi), noDict_memT ny (sy i hi), ?_, ?_⟩⟩
                · have := depth_mem (sy i hi)
                  simp only [PyData.depth] at dy
                  omega
                · show acc ++ [_] = _
                  rw [List.range_succ, List.map_append, ← ha]; rfl
              · have ha' : acc = (List.range (rngD 0 (ys.length : Int).toNat).length).map (fun i => PyData.bool (sameB (xs.getD i .none) (ys.getD i .none))) := ha
                rw [rngD_len, Int.toNat_natCast] at ha'
                have e2 : acc = (((List.range ys.length).map fun i => sameB (xs.getD i .none) (ys.getD i .none)).map PyData.bool) := by rw [ha', List.map_map]; rfl
                refine ⟨trivial, ?_, ?_⟩
                · rw [e2]; exact ⟨noDcts_bools _, by rw [depthAll_bools]; decide⟩
                · show Q (.d (.bool (!inD (.bool false) acc)))
                  rw [e2, notin_false, ← sameB_list el, ← sameB_tuple]
                  exact h
        | _ => cases ex
      | _ => cases ey
    · exact h.elim)
theorem ok_w_same (T : Txt K mg) : FnOk P w K mg base CX0 12 T.f_w_same T.fd_w_same ["_law_actual", "_law_due"] (toSp ⟨K, w⟩ (spn_w_same 12)) := okn_w_same T 12
/-! ## _law_words -/
-- @cut 4
-- @cut 7
-- @cut 9
/-- words, all apart -/
def sp_w_words : Spd := fun ws Q _ => match ws with
  | [.drw, .d (.int m)] => 0 ≤ m ∧ m ≤ 60 ∧ ∀ xs : List Str, xs.length = m.toNat → xs.Nodup → (∀ x ∈ xs, isW x = true ∧ x.length ≤ 24 + m.toNat) → Q (.l (xs.map .str))
  | _ => False
def okW (xs : List Str) (i : Nat) : Prop := xs.length = i ∧ xs.Nodup ∧ ∀ x ∈ xs, isW x = true ∧ x.length ≤ 24 + i
def inv_w_words (m : Int) (i : Nat) (ρ : En) : Prop := ∃ (xs : List Str) (o3 o4 o5 o6 o7 : Option W), okW xs i ∧ ρ = [some .drw, some (.d (.int m)), some (.l (xs.map .str)), o3, o4, o5, o6, o7]
def m4_w_words (m : Int) (xs : List Str) (ρ : En) : Prop := ∃ (n : Int) (o3 o5 o6 o7 : Option W), 1 ≤ n ∧ n ≤ 25 ∧ ρ = [some .drw, some (.d (.int m)), some (.l (xs.map .str)), o3, some (.d (.int n)), o5, o6, o7]
def m7_w_words (m : Int) (i : Nat) (xs : List Str) (P : Str → Prop) (ρ : En) : Prop := ∃ (x : Str) (o3 o4 o6 o7 : Option W), isW x = true ∧ x.length ≤ 25 + i ∧ P x ∧ ρ = [some .drw, some (.d (.int m)), some (.l (xs.map .str)), o3, o4, some (.d (.str x)), o6, o7]
theorem okW.grow {xs : List Str} {i : Nat} {x : Str} (h : okW xs i) (h1 : isW x = true) (h2 : x.length ≤ 25 + i) (h3 : x ∉ xs) : okW (xs ++ [x]) (i + 1) := by
  obtain ⟨a, b, c⟩ := h
  refine ⟨by rw [List.length_append, a]; rfl, nodup_snoc b h3, fun y hy => ?_⟩
  rcases List.mem_append.mp hy with z | z
  · have := c y z; exact ⟨this.1, by omega⟩
  · have e : y = x := by simpa using z
    subst e; exact ⟨h1, by omega⟩
theorem ok_w_words (T : Txt K mg) : FnOk P w K mg base CX0 3 T.f_w_words T.fd_w_words ["_law_draws_here", "_law_many"] (toSp ⟨K, w⟩ sp_w_words) :=
  okD T.F_w_words sc_w_words (fun ws Q E h => by
    unfold sp_w_words at h
    split at h
    all_goals first | rfl | exact h.elim) (fun cdv A outer s H E Z hr =>
      (dss_cons (ds_set (i := 2) sc_w_words.nd (d_lst da_nil))
      (dss_cons (ds_for rfl (di_rng1 T.m_range (da_cons (dv 1) da_nil)) (dg_name (i := 3) sc_w_words.nd)
      (dss_cons (ds_set (i := 4) sc_w_words.nd (d_op op_addA od_add d_int (d_call (ok_w_take T) (hr.mono (by decide)) T.g_w_take T.F_w_take.kp (bd_w_take T) pass0 (da_cons (dv 0) (da_cons d_int da_nil)))))
      (dss_cut (ds_if (dt_cmp (op_eqD hr.units) od_eq (d_call (ok_w_take T) (hr.mono (by decide)) T.g_w_take T.F_w_take.kp (bd_w_take T) pass0 (da_cons (dv 0) (da_cons d_int da_nil))) d_int)
      (dss_one (ds_set (i := 4) sc_w_words.nd (d_op op_addA od_add (d_op op_addA od_add (dv 4) d_int) (d_call (ok_w_take T) (hr.mono (by decide)) T.g_w_take T.F_w_take.kp (bd_w_take T) pass0 (da_cons (dv 0) (da_cons d_int da_nil))))))
      dss_nil)
      (dss_cons (ds_set (i := 5) sc_w_words.nd (d_join d_str (d_lc (own := [("_law_j", 6)]) rfl sc_w_words.nd (di_rng1 T.m_range (da_cons (dv 4) da_nil)) (blkOk_by (N := n_w_words) (sc := defScope s_w_words) (by decide +kernel)) (fun _ _ _ _ _ => (dg_name (i := 6) sc_w_words.nd)) (fun _ _ _ _ _ => dts_nil) (fun _ _ _ _ _ => (d_ix d_str (d_call (ok_w_take T) (hr.mono (by decide)) T.g_w_take T.F_w_take.kp (bd_w_take T) pass0 (da_cons (dv 0) (da_cons d_int da_nil))))))))
      (dss_cut (ds_if (dt_w (dw_and (dt_cmp op_gt od_gt (d_cb call_lenX cd_len T.m_len (by decide +kernel) (da_cons (dv 2) da_nil)) d_int) (dw_and1 (dt_cmp (op_eqD hr.units) od_eq (d_call (ok_w_take T) (hr.mono (by decide)) T.g_w_take T.F_w_take.kp (bd_w_take T) pass0 (da_cons (dv 0) (da_cons d_int da_nil))) d_int))))
      (dss_one (ds_set (i := 5) sc_w_words.nd (d_op op_addA od_add (d_call (ok_w_pick T) (hr.mono (by decide)) T.g_w_pick T.F_w_pick.kp (bd_w_pick T) pass0 (da_cons (dv 0) (da_cons (dv 2) da_nil))) (d_ix d_str (d_call (ok_w_take T) (hr.mono (by decide)) T.g_w_take T.F_w_take.kp (bd_w_take T) pass0 (da_cons (dv 0) (da_cons d_int da_nil)))))))
      dss_nil)
      (dss_cut (ds_if (dt_cmp (op_inA hr.u65) od_in (dv 5) (dv 2))
      (dss_one (ds_set (i := 5) sc_w_words.nd (d_op op_mulA od_mulA d_str (d_op op_addA od_add d_int (d_cb (cr_max rfl) cd_max T.m_max (by decide +kernel) (da_cons (d_lc (own := [("_law_other", 7)]) rfl sc_w_words.nd (di_seq (dv 2)) (blkOk_by (N := n_w_words) (sc := defScope s_w_words) (by decide +kernel)) (fun _ _ _ _ _ => (dg_name (i := 7) sc_w_words.nd)) (fun _ _ _ _ _ => dts_nil) (fun _ _ _ _ _ => (d_cb call_lenX cd_len T.m_len (by decide +kernel) (da_cons (dv 7) da_nil)))) da_nil))))))
      dss_nil)
      (dss_one (ds_app 2 (dv 5)))))))))
      (dss_one (ds_retv 2)))))
    (fun ws Q E h => by
    unfold sp_w_words at h
    split at h
    · rename_i m
      obtain ⟨m0, m1, h⟩ := h
      refine ⟨by omega, by omega, inv_w_words m, ⟨[], _, _, _, _, _, ⟨rfl, .nil, fun x hx => by cases hx⟩, rfl⟩, ?_, ?_⟩
      · rintro i z ρ' hz ⟨xs, o3, o4, o5, o6, o7, ok, rfl⟩
        obtain ⟨hi, rfl⟩ := rngD_some hz
        refine ⟨by decide, fun r1 r10 r11 => ⟨m4_w_words m xs, ⟨by decide, fun r2 r20 r21 => ?_⟩, ?_⟩⟩
        · refine ifd (fun e => ?_) (fun e => ?_)
          · refine ⟨by decide, fun r3 r30 r31 => ?_⟩
            exact ⟨_, _, _, _, _, by omega, by omega, rfl⟩
          · exact ⟨_, _, _, _, _, by omega, by omega, rfl⟩
        · rintro ρ' ⟨n, o3, o5, o6, o7, n1, n2, rfl⟩
          refine ⟨trivial, by omega, by omega, fun j acc => ∃ cs : List Nat, cs.length = j ∧ (∀ c ∈ cs, isLow c = true) ∧ acc = cs.map chS, ⟨[], rfl, (fun c hc => by cases hc), rfl⟩, ?_, ?_⟩
          · rintro j z acc hz ⟨cs, hl, hc, rfl⟩
            refine ⟨by decide, fun r4 r40 r41 => ?_⟩
            obtain ⟨c, c1, c2⟩ := letter_at r40 r41
            refine ⟨c, c1, cs ++ [c], by rw [List.length_append, hl]; rfl, fun d hd => ?_, by rw [List.map_append]; rfl⟩
            rcases List.mem_append.mp hd with z | z
            · exact hc d z
            · have e : d = c := by simpa using z
              subst e; exact c2
          · rintro acc ⟨cs, hl, hc, rfl⟩
            rw [rngD_len] at hl
            have cs0 : cs ≠ [] := fun e => by subst e; simp at hl; omega
            obtain ⟨j1, j2⟩ := join0 cs0 hc
            refine ⟨_, cs.map (fun c => (⟨#[c]⟩ : Str)), rfl, by rw [List.map_map]; rfl, ?_, m7_w_words m i xs (fun _ => True), ?_, ?_⟩
            · rw [sum_ones, List.length_map, show (Str.ofString "").length = 0 from by decide]; omega
            · have same : m7_w_words m i xs (fun _ => True) [some .drw, some (.d (.int m)), some (.l (xs.map .str)), o3, some (.d (.int n)), some (.d (.str (Txt.join (Str.ofString "") (cs.map (fun c => (⟨#[c]⟩ : Str)))))), o6, o7] :=
                ⟨_, _, _, _, _, j1, by rw [j2]; omega, trivial, rfl⟩
              refine fun _ => ifd (fun e1 => ⟨by decide, fun r5 _ _ => ifd (fun e2 => ?_) (fun e2 => ?_)⟩) (fun e1 => ?_)
              · rw [List.length_map] at e1
                refine ⟨_, rfl, by rw [List.length_map]; omega, fun y hy => ?_⟩
                obtain ⟨y, hy2, rfl⟩ := List.mem_map.mp hy
                refine ⟨by decide, fun r6 r60 r61 => ?_⟩
                obtain ⟨c, c1, c2⟩ := letter_at r60 r61
                have := ok.2.2 y hy2
                have l1 : (⟨#[c]⟩ : Str).length = 1 := rfl
                have l2 : (y ++ (⟨#[c]⟩ : Str)).length = y.length + 1 := Array.size_append ..
                refine ⟨c, c1, by rw [l1, sizeLine_eq]; omega, y ++ ⟨#[c]⟩, _, _, _, _, isW_append this.1 (fun d hd => ?_), by omega, trivial, rfl⟩
                have e : d = c := by simpa using hd
                subst e; exact c2
              · exact same
              · exact same
            · rintro ρ' ⟨x, o3, o4, o6, o7, x1, x2, _, rfl⟩
              refine ⟨m7_w_words m i xs (· ∉ xs), ⟨trivial, ⟨noDcts_strs _, by rw [depthAll_strs]; decide⟩, ifb (fun e => ?_) (fun e => ?_)⟩, ?_⟩
              · replace e : inD (.str x) (xs.map .str) = true := e
                rw [inD_str, decide_eq_true_eq] at e
                refine ⟨fun j acc => acc = (xs.take j).map (fun y => PyData.int y.length), rfl, fun j y acc hy ha => ?_, fun acc ha => ?_⟩
                · obtain ⟨y, hy2, rfl⟩ := map_some hy
                  intro _
                  show acc ++ [PyData.int y.length] = (xs.take (j + 1)).map (fun y => PyData.int y.length)
                  rw [take_succ_map hy2, ← ha]
                · have ha' : acc = (xs.take (xs.map PyData.str).length).map (fun y => PyData.int y.length) := ha
                  rw [List.length_map, List.take_length] at ha'
                  refine ⟨acc, xs.map (fun y => (y.length : Int)), rfl, by rw [ha', List.map_map]; rfl, ?_, fun mx hm hall => ?_⟩
                  · rw [List.length_map]; exact List.length_pos_of_mem e
                  · obtain ⟨y, hy, rfl⟩ := List.mem_map.mp hm
                    have b := (ok.2.2 y hy).2
                    obtain ⟨z1, z2⟩ := z_word (n := 1 + (y.length : Int)) (by omega)
                    refine ⟨by omega, by omega, by decide, _, _, _, _, _, z1, by rw [z2]; omega, fun hin => ?_, rfl⟩
                    have := hall _ (List.mem_map.mpr ⟨_, hin, rfl⟩)
                    rw [z2] at this
                    omega
              · replace e : inD (.str x) (xs.map .str) = false := e
                rw [inD_str, decide_eq_false_iff_not] at e
                exact ⟨_, _, _, _, _, x1, x2, e, rfl⟩
              · rintro ρ' ⟨x, o3, o4, o6, o7, x1, x2, nx, rfl⟩
                refine ⟨by rw [List.length_map, ok.1, sizeLine_eq]; omega, xs ++ [x], _, _, _, _, _, ok.grow x1 x2 nx, by rw [List.map_append]; rfl⟩
      · rintro ρ' ⟨xs, o3, o4, o5, o6, o7, ok, rfl⟩
        rw [rngD_len] at ok
        exact h xs ok.1 ok.2.1 ok.2.2
    · exact h.elim)
/-! ## _law_any_value -/
/-- a text of the list, or an int -/
def sp_w_any_value : Spd := fun ws Q _ => ∃ (ns : List Int) (w : W) (ts : List Str), ws = [.drw, .b (ns.map .int), w] ∧ ns.length ≤ 63 ∧ asQ w = some (ts.map Enc.d) ∧ 0 < ts.length ∧ (∀ i : Int, Q (.d (Enc.d (Val.i i)))) ∧ ∀ t ∈ ts, Q (.d (Enc.d (Val.s t)))
theorem ok_w_any_value (T : Txt K mg) : FnOk P w K mg base CX0 3 T.f_w_any_value T.fd_w_any_value ["_law_draws_here", "_law_script", "_law_words_here"] (toSp ⟨K, w⟩ sp_w_any_value) :=
  okD T.F_w_any_value sc_w_any_value (fun ws Q E h => by
    first | (obtain ⟨rfl, _⟩ := h; rfl) | (obtain ⟨_, rfl, _⟩ := h; rfl) | (obtain ⟨_, _, rfl, _⟩ := h; rfl) | (obtain ⟨_, _, _, rfl, _⟩ := h; rfl) | (obtain ⟨_, _, _, _, rfl, _⟩ := h; rfl) | (obtain ⟨_, _, _, _, _, rfl, _⟩ := h; rfl) | (obtain ⟨_, _, _, _, _, _, rfl, _⟩ := h; rfl) | (obtain ⟨_, _, _, _, _, _, _, rfl, _⟩ := h; rfl) | (obtain ⟨_, _, _, _, _, _, _, _, rfl, _⟩ := h; rfl) | (obtain ⟨_, _, _, _, _, _, _, _, _, rfl, _⟩ := h; rfl) | (obtain ⟨_, _, _, _, _, _, _, _, _, _, rfl, _⟩ := h; rfl) | (obtain ⟨_, _, _, _, _, _, _, _, _, _, _, rfl, _⟩ := h; rfl) | (unfold sp_w_any_value at h; split at h; all_goals first | rfl | exact h.elim)) (fun cdv A outer s H E Z hr =>
      (dss_cons (ds_ifN (ds_if (dt_cmp (op_eqD hr.units) od_eqN (d_callN (d_call (ok_w_take T) (hr.mono (by decide)) T.g_w_take T.F_w_take.kp (bd_w_take T) pass0 (da_cons (dv 0) (da_cons d_int da_nil)))) d_int)
      (dss_one (ds_ret (d_callN (d_call (ok_w_pick T) (hr.mono (by decide)) T.g_w_pick T.F_w_pick.kp (bd_w_pick T) pass0 (da_cons (dv 0) (da_cons (dv 2) da_nil))))))
      dss_nil))
      (dss_one (ds_ret (d_op op_mulA od_mulA (d_callN (d_call (ok_w_size T) (hr.mono (by decide)) T.g_w_size T.F_w_size.kp (bd_w_size T) pass0 (da_cons (dv 0) (da_cons (dv 1) da_nil)))) (d_op op_sub od_sub d_int (d_op op_mulA od_mulA d_int (d_callN (d_call (ok_w_take T) (hr.mono (by decide)) T.g_w_take T.F_w_take.kp (bd_w_take T) pass0 (da_cons (dv 0) (da_cons d_int da_nil)))))))))))
    (fun ws Q E h => by
    obtain ⟨ns, w, ts, rfl, hl, hq, h0, h1, h2⟩ := h
    walk_at "go"
    refine ⟨by decide, fun r r0 r1 => ?_⟩
    walk_at "go"
    refine iB_d (fun e => ?_) (fun e => ?_)
    · walk_at "go"
      refine callR_of ?_ (okB_q hq)
      refine ⟨_, asQ_arg hq, by rw [List.length_map]; exact h0, fun y hy => ?_⟩
      obtain ⟨t, ht, rfl⟩ := List.mem_map.mp hy
      exact h2 t ht
    · walk_at "go"
      refine ⟨hl, fun i i0 => ?_⟩
      walk_at "go"
      refine ⟨by decide, fun r2 r20 r21 => ?_⟩
      walk_at "go"
      refine ⟨.inl ⟨by decide, by decide⟩, ?_⟩
      walk_at "go"
      exact ⟨.inr ⟨by omega, by omega⟩, h1 _⟩)
/-! ## _law_before -/
-- @sidx
-- @rec 2
def befR (n : Nat) (x y : W) (Q : W → Prop) : Prop := ∃ a b : Val, x = Ed a ∧ y = Ed b ∧ a.ok = true ∧ b.ok = true ∧ 0 < n ∧ (n = 1 → ∃ i j, a = .i i ∧ b = .i j) ∧ Q (.d (.int (cmpV a b)))
def spn_w_before (n : Nat) : Spd := fun ws Q _ => match ws with
  | [x, y] => befR n x y Q
  | _ => False
abbrev sp_w_before : Spd := spn_w_before 2
theorem void_w_before (a b : W) (Q : W → Prop) : ¬ befR 0 a b Q := fun ⟨_, _, _, _, _, _, h, _⟩ => absurd h (by decide)
theorem okn_w_before (T : Txt K mg) : ∀ n, FnOk P w K mg base CX0 n T.f_w_before T.fd_w_before ["_law_one_value", "_law_other"] (toSp ⟨K, w⟩ (spn_w_before n))
  | 0 => fnok_void fun ws Q E h => by
    unfold spn_w_before at h
    split at h
    all_goals first | exact h.elim | exact absurd h (void_w_before _ _ _)
  | n + 1 => by
   have IH := okn_w_before T n
   exact okD T.F_w_before sc_w_before (fun ws Q E h => by
    first | (obtain ⟨rfl, _⟩ := h; rfl) | (obtain ⟨_, rfl, _⟩ := h; rfl) | (obtain ⟨_, _, rfl, _⟩ := h; rfl) | (obtain ⟨_, _, _, rfl, _⟩ := h; rfl) | (obtain ⟨_, _, _, _, rfl, _⟩ := h; rfl) | (obtain ⟨_, _, _, _, _, rfl, _⟩ := h; rfl) | (obtain ⟨_, _, _, _, _, _, rfl, _⟩ := h; rfl) | (obtain ⟨_, _, _, _, _, _, _, rfl, _⟩ := h; rfl) | (obtain ⟨_, _, _, _, _, _, _, _, rfl, _⟩ := h; rfl) | (obtain ⟨_, _, _, _, _, _, _, _, _, rfl, _⟩ := h; rfl) | (obtain ⟨_, _, _, _, _, _, _, _, _, _, rfl, _⟩ := h; rfl) | (obtain ⟨_, _, _, _, _, _, _, _, _, _, _, rfl, _⟩ := h; rfl) | (unfold spn_w_before at h; split at h; all_goals first | rfl | exact h.elim)) (fun cdv A outer s H E Z hr =>
      (dss_cons (ds_ifN (ds_if (dt_cmp (op_neD hr.units) od_neN (d_isiN (d_isi .str T.m_isinstance T.m_str (by decide +kernel) (dv 0))) (d_isiN (d_isi .str T.m_isinstance T.m_str (by decide +kernel) (dv 1))))
      (dss_one (ds_ret (d_op op_sub od_sub d_int (d_op op_mulA od_mulA d_int (d_cty call_int1 cd_int T.m_int (by decide +kernel) (da_cons (d_isiN (d_isi .str T.m_isinstance T.m_str (by decide +kernel) (dv 1))) da_nil))))))
      dss_nil))
      (dss_cons (ds_ifN (ds_if (dt_val (d_isiN (d_isi .str T.m_isinstance T.m_str (by decide +kernel) (dv 0))))
      (dss_cons (ds_forN (ds_for rfl (di_rng1 T.m_range (da_cons (d_cb (call_min2 rfl) cd_min2 T.m_min (by decide +kernel) (da_cons (d_cb call_lenX cd_len T.m_len (by decide +kernel) (da_cons (dv 0) da_nil)) (da_cons (d_cb call_lenX cd_len T.m_len (by decide +kernel) (da_cons (dv 1) da_nil)) da_nil))) da_nil)) (dg_name (i := 2) sc_w_before.nd)
      (dss_cons (ds_set (i := 3) sc_w_before.nd d_str)
      (dss_one (ds_ifN (ds_if (dt_cmp (op_neD hr.units) od_neN (d_ixY hr.u65 (dv 0) (dv 2)) (d_ixY hr.u65 (dv 1) (dv 2)))
      (dss_one (ds_ret (d_op op_sub od_sub d_int (d_op op_mulA od_mulA d_int (d_cty call_int1 cd_int T.m_int (by decide +kernel) (da_cons (d_cmp op_lt od_lt (d_sx (dv 3) (da_cons (d_ixY hr.u65 (dv 0) (dv 2)) da_nil)) (d_sx (dv 3) (da_cons (d_ixY hr.u65 (dv 1) (dv 2)) da_nil))) da_nil))))))
      dss_nil))))))
      (dss_one (ds_ret (d_callN (d_call IH (hr.mono (Nat.le_refl _)) T.g_w_before T.F_w_before.kp (bd_w_before T) pass0 (da_cons (d_cb call_lenX cd_len T.m_len (by decide +kernel) (da_cons (dv 0) da_nil)) (da_cons (d_cb call_lenX cd_len T.m_len (by decide +kernel) (da_cons (dv 1) da_nil)) da_nil)))))))
      dss_nil))
      (dss_one (ds_ret (d_op op_sub od_sub (d_cty call_int1 cd_int T.m_int (by decide +kernel) (da_cons (d_cmp op_gt od_gt (dv 0) (dv 1)) da_nil)) (d_cty call_int1 cd_int T.m_int (by decide +kernel) (da_cons (d_cmp op_lt od_lt (dv 0) (dv 1)) da_nil))))))))
    (fun ws Q E h => by
    unfold spn_w_before at h
    split at h
    · obtain ⟨a, b, rfl, rfl, oa, ob, n0, n1, h⟩ := h
      cases a with
      | i m =>
        cases b with
        | i k =>
          walk_at "gn"
          rw [show ((if decide (k < m) = true then (1 : Int) else 0) - if decide (m < k) = true then 1 else 0) = cmpV (.i m) (.i k) from (cmpV_int m k).symm]
          exact h
        | s y =>
          walk_at "gn"
          exact h
      | s x =>
        cases b with
        | i k =>
          walk_at "gn"
          exact h
        | s y =>
          have n2 : n ≠ 0 := fun e => by
            subst e
            obtain ⟨i, j, e, _⟩ := n1 rfl
            cases e
          walk_at "gn"
          rw [show (min (x.length : Int) (y.length : Int)).toNat = min x.length y.length from by omega]
          refine forR_nz (fun (s : (Unit) × Option W × Option W) => ([some (Ed (Val.s x)), some (Ed (Val.s y)), s.2.1, s.2.2] : En)) (fun i s => x.cps.toList.take i = y.cps.toList.take i) ((), _, _) rfl rfl (fun i s hi hs => ?_) fun s hs => ?_
          · obtain ⟨u, j0, j1⟩ := s; dsimp only at hs ⊢
            have hs : x.cps.toList.take i = y.cps.toList.take i := hs
            have ix : i < x.cps.toList.length := by rw [cps_len]; omega
            have iy : i < y.cps.toList.length := by rw [cps_len]; omega
            have lx : isLow x.cps.toList[i] = true := low_at oa ix
            have ly : isLow y.cps.toList[i] = true := low_at ob iy
            walk_at "gn"
            refine ⟨_, atI_nat (List.getElem?_eq_getElem ix), ?_⟩
            walk_at "gn"
            refine ⟨_, atI_nat (List.getElem?_eq_getElem iy), ?_⟩
            walk_at "gn"
            by_cases e : x.cps.toList[i] = y.cps.toList[i]
            · rw [e]
              refine iB_nyes rfl ?_
              walk_at "gn"
              exact ⟨((), _, _), rfl, by rw [List.take_add_one, List.take_add_one, hs, List.getElem?_eq_getElem ix, List.getElem?_eq_getElem iy, e]⟩
            · refine iB_nno (fun z => e (by injection z with z; injection z with z; injection z)) ?_
              have ec := cmpV_at ix iy hs e
              walk_at "gn"
              refine ⟨_, atI_nat (List.getElem?_eq_getElem ix), ?_⟩
              walk_at "gn"
              refine sxR_low lx ?_
              walk_at "gn"
              refine ⟨_, atI_nat (List.getElem?_eq_getElem iy), ?_⟩
              walk_at "gn"
              refine sxR_low ly ?_
              walk_at "gn"
              have gx := low_ge lx
              have gy := low_ge ly
              rw [ec] at h
              by_cases q : x.cps.toList[i] < y.cps.toList[i]
              · rw [if_pos q] at h
                rw [if_pos (decide_eq_true (by omega))]
                exact h
              · rw [if_neg q] at h
                rw [decide_eq_false (show ¬ ((x.cps.toList[i] - 97 : Nat) : Int) < ((y.cps.toList[i] - 97 : Nat) : Int) from by omega)]
                exact h
          · obtain ⟨u, j0, j1⟩ := s; dsimp only at hs ⊢
            have e := cmpV_end hs
            walk_at "gn"
            refine ⟨.i x.length, .i y.length, rfl, rfl, rfl, rfl, by omega, fun _ => ⟨_, _, rfl, rfl⟩, ?_⟩
            walk_at "gn"
            rw [← e]
            exact h
    · exact h.elim)
theorem ok_w_before (T : Txt K mg) : FnOk P w K mg base CX0 2 T.f_w_before T.fd_w_before ["_law_one_value", "_law_other"] (toSp ⟨K, w⟩ (spn_w_before 2)) := okn_w_before T 2
/-! ## _law_near_value -/
def sp_w_near_value : Spd := fun ws Q _ => ∃ (ns : List Int) (xs : List Str) (seen : List Val) (m : Nat), ws = [.drw, .b (ns.map .int), .b (xs.map Enc.d), .b (seen.map Enc.d)] ∧ ns.length ≤ 63 ∧ 0 < xs.length ∧ (∀ x ∈ xs, isW x = true) ∧ (∀ x ∈ xs, x.length ≤ m) ∧ (∀ v ∈ seen, v.ok = true) ∧ (∀ v ∈ seen, vLen v ≤ m) ∧ m ≤ 1000 ∧ ∀ v : Val, v.ok = true → vLen v ≤ m + 1 → Q (.d (Enc.d v))
theorem ok_w_near_value (T : Txt K mg) : FnOk P w K mg base CX0 4 T.f_w_near_value T.fd_w_near_value ["_law_draws_here", "_law_script", "_law_words_here", "_law_seen"] (toSp ⟨K, w⟩ sp_w_near_value) :=
  okD T.F_w_near_value sc_w_near_value (fun ws Q E h => by
    first | (obtain ⟨rfl, _⟩ := h; rfl) | (obtain ⟨_, rfl, _⟩ := h; rfl) | (obtain ⟨_, _, rfl, _⟩ := h; rfl) | (obtain ⟨_, _, _, rfl, _⟩ := h; rfl) | (obtain ⟨_, _, _, _, rfl, _⟩ := h; rfl) | (obtain ⟨_, _, _, _, _, rfl, _⟩ := h; rfl) | (obtain ⟨_, _, _, _, _, _, rfl, _⟩ := h; rfl) | (obtain ⟨_, _, _, _, _, _, _, rfl, _⟩ := h; rfl) | (obtain ⟨_, _, _, _, _, _, _, _, rfl, _⟩ := h; rfl) | (obtain ⟨_, _, _, _, _, _, _, _, _, rfl, _⟩ := h; rfl) | (obtain ⟨_, _, _, _, _, _, _, _, _, _, rfl, _⟩ := h; rfl) | (obtain ⟨_, _, _, _, _, _, _, _, _, _, _, rfl, _⟩ := h; rfl) | (unfold sp_w_near_value at h; split at h; all_goals first | rfl | exact h.elim)) (fun cdv A outer s H E Z hr =>
      (dss_cons (ds_ifN (ds_if (dt_w (dw_andN (dw_and (dt_cmp op_gt od_gt (d_cb call_lenX cd_len T.m_len (by decide +kernel) (da_cons (dv 3) da_nil)) d_int) (dw_and1 (dt_cmp (op_eqD hr.units) od_eqN (d_callN (d_call (ok_w_take T) (hr.mono (by decide)) T.g_w_take T.F_w_take.kp (bd_w_take T) pass0 (da_cons (dv 0) (da_cons d_int da_nil)))) d_int)))))
      (dss_cons (ds_set (i := 4) sc_w_near_value.nd (d_callN (d_call (ok_w_pick T) (hr.mono (by decide)) T.g_w_pick T.F_w_pick.kp (bd_w_pick T) pass0 (da_cons (dv 0) (da_cons (dv 3) da_nil)))))
      (dss_cons (ds_ifN (ds_if (dt_val (d_isiN (d_isi .str T.m_isinstance T.m_str (by decide +kernel) (dv 4))))
      (dss_one (ds_ret (d_ixY hr.u65 (d_lst (da_cons (dv 4) (da_cons (d_op op_addA od_add (dv 4) (d_slice (d_callN (d_call (ok_w_pick T) (hr.mono (by decide)) T.g_w_pick T.F_w_pick.kp (bd_w_pick T) pass0 (da_cons (dv 0) (da_cons (dv 2) da_nil)))) do_none (do_some d_int))) (da_cons (d_op op_addA od_add (d_slice (dv 4) do_none (do_some (d_op op_sub od_sub (d_cb call_lenX cd_len T.m_len (by decide +kernel) (da_cons (dv 4) da_nil)) d_int))) d_str) da_nil)))) (d_callN (d_call (ok_w_take T) (hr.mono (by decide)) T.g_w_take T.F_w_take.kp (bd_w_take T) pass0 (da_cons (dv 0) (da_cons d_int da_nil)))))))
      dss_nil))
      (dss_one (ds_ret (d_op op_sub od_sub (d_op op_addA od_add (dv 4) (d_callN (d_call (ok_w_take T) (hr.mono (by decide)) T.g_w_take T.F_w_take.kp (bd_w_take T) pass0 (da_cons (dv 0) (da_cons d_int da_nil))))) d_int)))))
      dss_nil))
      (dss_one (ds_ret (d_callN (d_call (ok_w_any_value T) (hr.mono (by decide)) T.g_w_any_value T.F_w_any_value.kp (bd_w_any_value T) pass0 (da_cons (dv 0) (da_cons (dv 1) (da_cons (dv 2) da_nil)))))))))
    (fun ws Q E h => by
    obtain ⟨ns, xs, seen, m, rfl, hl, h0, xw, xm, so, sm, m10, h⟩ := h
    walk_at "gn"
    rw [List.length_map]
    refine iB_d (fun e0 => ?_) (fun e0 => ?_)
    · walk_at "gn"
      refine fun r _ _ => ?_
      walk_at "gn"
      refine iB_d (fun e => ?_) (fun e => ?_)
      · walk_at "gn"
        refine allm fun v hv => ?_
        have vo := so v hv
        have vm := sm v hv
        cases v with
        | i k =>
          walk_at "gn"
          refine fun r _ _ => ?_
          walk_at "gn"
          exact h (.i _) rfl (Nat.zero_le _)
        | s x =>
          have vm : x.length ≤ m := vm
          walk_at "gn"
          refine allm fun t ht => ?_
          have tl := xm t ht
          have tw := xw t ht
          have c1 := cut_one t
          have c2 := cutS_length x none (some ((x.length : Int) - 1))
          have q1 : isW (x ++ cutS t none (some 1)) = true := isW_pos (low_app (isW_low vo) (low_cut (isW_low tw) _ _)) (by have := isW_ne vo; rw [size_app]; omega)
          have m1 : (Str.ofString "m").length = 1 := by decide
          have q2 : isW (cutS x none (some ((x.length : Int) - 1)) ++ Str.ofString "m") = true := isW_pos (low_app (low_cut (isW_low vo) _ _) (by decide +kernel)) (by rw [size_app]; omega)
          walk_at "gn"
          refine fun r2 r20 r21 => ?_
          rcases (by omega : r2 = 0 ∨ r2 = 1 ∨ r2 = 2) with rfl | rfl | rfl
          · walk_at "gn"
            exact h (.s x) vo (by show x.length ≤ _; omega)
          · walk_at "gn"
            exact h (.s _) q1 (by show (x ++ cutS t none (some 1)).length ≤ _; rw [size_app]; omega)
          · walk_at "gn"
            exact h (.s _) q2 (by show (cutS x none (some ((x.length : Int) - 1)) ++ Str.ofString "m").length ≤ _; rw [size_app]; omega)
      · walk_at "gn"
        refine ⟨ns, _, xs, rfl, hl, rfl, h0, fun i => h (.i i) rfl (Nat.zero_le _), fun t ht => h (.s t) (xw t ht) (by have := xm t ht; show t.length ≤ m + 1; omega)⟩
    · walk_at "gn"
      refine ⟨ns, _, xs, rfl, hl, rfl, h0, fun i => h (.i i) rfl (Nat.zero_le _), fun t ht => h (.s t) (xw t ht) (by have := xm t ht; show t.length ≤ m + 1; omega)⟩)
/-! ## _law_row_before -/
def sp_w_row_before : Spd := fun ws Q _ => ∃ a b : VRow, ws = [Ed a, Ed b] ∧ (∀ v ∈ a, v.ok = true) ∧ (∀ v ∈ b, v.ok = true) ∧ Q (.d (.int (cmpW a b)))
theorem ok_w_row_before (T : Txt K mg) : FnOk P w K mg base CX0 3 T.f_w_row_before T.fd_w_row_before ["_law_row", "_law_other"] (toSp ⟨K, w⟩ sp_w_row_before) :=
  okD T.F_w_row_before sc_w_row_before (fun ws Q E h => by
    first | (obtain ⟨rfl, _⟩ := h; rfl) | (obtain ⟨_, rfl, _⟩ := h; rfl) | (obtain ⟨_, _, rfl, _⟩ := h; rfl) | (obtain ⟨_, _, _, rfl, _⟩ := h; rfl) | (obtain ⟨_, _, _, _, rfl, _⟩ := h; rfl) | (obtain ⟨_, _, _, _, _, rfl, _⟩ := h; rfl) | (obtain ⟨_, _, _, _, _, _, rfl, _⟩ := h; rfl) | (obtain ⟨_, _, _, _, _, _, _, rfl, _⟩ := h; rfl) | (obtain ⟨_, _, _, _, _, _, _, _, rfl, _⟩ := h; rfl) | (obtain ⟨_, _, _, _, _, _, _, _, _, rfl, _⟩ := h; rfl) | (obtain ⟨_, _, _, _, _, _, _, _, _, _, rfl, _⟩ := h; rfl) | (obtain ⟨_, _, _, _, _, _, _, _, _, _, _, rfl, _⟩ := h; rfl) | (unfold sp_w_row_before at h; split at h; all_goals first | rfl | exact h.elim)) (fun cdv A outer s H E Z hr =>
      (dss_cons (ds_forN (ds_for rfl (di_rng1 T.m_range (da_cons (d_cb (call_min2 rfl) cd_min2 T.m_min (by decide +kernel) (da_cons (d_cb call_lenX cd_len T.m_len (by decide +kernel) (da_cons (dv 0) da_nil)) (da_cons (d_cb call_lenX cd_len T.m_len (by decide +kernel) (da_cons (dv 1) da_nil)) da_nil))) da_nil)) (dg_name (i := 2) sc_w_row_before.nd)
      (dss_one (ds_ifN (ds_if (dt_cmp (op_neD hr.units) od_neN (d_callN (d_call (ok_w_before T) (hr.mono (by decide)) T.g_w_before T.F_w_before.kp (bd_w_before T) pass0 (da_cons (d_ixY hr.u65 (dv 0) (dv 2)) (da_cons (d_ixY hr.u65 (dv 1) (dv 2)) da_nil)))) d_int)
      (dss_one (ds_ret (d_callN (d_call (ok_w_before T) (hr.mono (by decide)) T.g_w_before T.F_w_before.kp (bd_w_before T) pass0 (da_cons (d_ixY hr.u65 (dv 0) (dv 2)) (da_cons (d_ixY hr.u65 (dv 1) (dv 2)) da_nil))))))
      dss_nil)))))
      (dss_one (ds_ret (d_callN (d_call (ok_w_before T) (hr.mono (by decide)) T.g_w_before T.F_w_before.kp (bd_w_before T) pass0 (da_cons (d_cb call_lenX cd_len T.m_len (by decide +kernel) (da_cons (dv 0) da_nil)) (da_cons (d_cb call_lenX cd_len T.m_len (by decide +kernel) (da_cons (dv 1) da_nil)) da_nil))))))))
    (fun ws Q E h => by
    obtain ⟨a, b, rfl, oa, ob, h⟩ := h
    walk_at "gn"
    rw [List.length_map, List.length_map, show (min (a.length : Int) (b.length : Int)).toNat = min a.length b.length from by omega]
    refine forR_nz (fun (s : (Unit) × Option W) => ([some (Ed a), some (Ed b), s.2] : En)) (fun i s => a.take i = b.take i) ((), _) rfl rfl (fun i s hi hs => ?_) fun s hs => ?_
    · obtain ⟨u, j0⟩ := s; dsimp only at hs ⊢
      have hs : a.take i = b.take i := hs
      have ia : i < a.length := by omega
      have ib : i < b.length := by omega
      have oi := oa _ (List.getElem_mem ia)
      have oj := ob _ (List.getElem_mem ib)
      walk_at "gn"
      refine ⟨a[i], b[i], rfl, rfl, oi, oj, by decide, (fun z => by cases z), ?_⟩
      walk_at "gn"
      refine iB_dn (fun e => ?_) (fun e => ?_)
      · have ne : a[i] ≠ b[i] := fun z => e (cmpV_zero.mpr z)
        have ec := cmpW_at ia ib hs ne
        walk_at "gn"
        refine ⟨a[i], b[i], rfl, rfl, oi, oj, by decide, (fun z => by cases z), ?_⟩
        walk_at "gn"
        rw [← ec]
        exact h
      · have e2 := cmpV_zero.mp e
        walk_at "gn"
        exact ⟨((), _), rfl, by rw [List.take_add_one, List.take_add_one, hs, List.getElem?_eq_getElem ia, List.getElem?_eq_getElem ib, e2]⟩
    · obtain ⟨u, j0⟩ := s; dsimp only at hs ⊢
      have e := cmpW_end hs
      walk_at "gn"
      rw [List.length_map, List.length_map]
      refine ⟨.i a.length, .i b.length, rfl, rfl, rfl, rfl, by decide, (fun z => by cases z), ?_⟩
      walk_at "gn"
      rw [← e]
      exact h)
/-! ## law -/
-- @frz 6 3
-- @frz 22 7
-- @cut 13
abbrev sp_the_law : Spd := spLawD
theorem ok_the_law (T : Txt K mg) : FnOk P w K mg base CX0 13 T.f_the_law T.fd_the_law ["_law_script"] (toSp ⟨K, w⟩ sp_the_law) :=
  okD T.F_the_law sc_the_law (fun ws Q E h => by
    unfold sp_the_law spLawD at h
    split at h
    all_goals first | rfl | exact h.elim) (fun cdv A outer s H E Z hr =>
      (dss_cons (ds_set (i := 1) sc_the_law.nd (d_callN (d_call (ok_w_draws T) (hr.mono (by decide)) T.g_w_draws T.F_w_draws.kp (bd_w_draws T) pass0 (da_cons (dv 0) (da_cons d_int da_nil)))))
      (dss_cons (ds_set (i := 2) sc_the_law.nd (d_callN (d_call (ok_w_words T) (hr.mono (by decide)) T.g_w_words T.F_w_words.kp (bd_w_words T) pass0 (da_cons (dv 1) (da_cons d_int da_nil)))))
      (dss_cons (ds_set (i := 3) sc_the_law.nd (d_lst da_nil))
      (dss_cons (ds_forN (ds_for rfl (di_rng1 T.m_range (da_cons d_int da_nil)) (dg_name (i := 4) sc_the_law.nd)
      (dss_one (ds_app 3 (d_callN (d_call (ok_w_near_value T) (hr.mono (by decide)) T.g_w_near_value T.F_w_near_value.kp (bd_w_near_value T) pass0 (da_cons (dv 1) (da_cons (dv 0) (da_cons (dv 2) (da_cons (dv 3) da_nil))))))))))
      (dss_cons (ds_frz 3 (ds_forN (ds_for rfl (di_any (dv 3)) (dg_name (i := 5) sc_the_law.nd)
      (dss_one (ds_forN (ds_for rfl (di_any (dv 3)) (dg_name (i := 6) sc_the_law.nd)
      (dss_one (ds_ifN (ds_if (dt_not (dt_val (d_callN (d_call (ok_w_same T) (hr.mono (by decide)) T.g_w_same T.F_w_same.kp (bd_w_same T) pass0 (da_cons (d_callN (d_call (ok_p_compare_values T) (hr.mono (by decide)) T.g_p_compare_values T.F_p_compare_values.kp (bd_p_compare_values T) pass0 (da_cons (dv 5) (da_cons (dv 6) da_nil)))) (da_cons (d_callN (d_call (ok_w_before T) (hr.mono (by decide)) T.g_w_before T.F_w_before.kp (bd_w_before T) pass0 (da_cons (dv 5) (da_cons (dv 6) da_nil)))) da_nil))))))
      (dss_one (ds_ret d_bl))
      dss_nil)))))))))
      (dss_cons (ds_set (i := 7) sc_the_law.nd (d_lst da_nil))
      (dss_cons (ds_forN (ds_for rfl (di_rng1 T.m_range (da_cons (d_callN (d_call (ok_w_take T) (hr.mono (by decide)) T.g_w_take T.F_w_take.kp (bd_w_take T) pass0 (da_cons (dv 1) (da_cons d_int da_nil)))) da_nil)) (dg_name (i := 4) sc_the_law.nd)
      (dss_cons (ds_set (i := 8) sc_the_law.nd (d_lcN (d_lc (own := [("_law_j", 12)]) rfl sc_the_law.nd (di_rng1 T.m_range (da_cons (d_callN (d_call (ok_w_take T) (hr.mono (by decide)) T.g_w_take T.F_w_take.kp (bd_w_take T) pass0 (da_cons (dv 1) (da_cons d_int da_nil)))) da_nil)) (blkOk_by (N := n_the_law) (sc := defScope s_the_law) (by decide +kernel)) (fun _ _ _ _ _ => (dg_name (i := 12) sc_the_law.nd)) (fun _ _ _ _ _ => dts_nil) (fun _ _ _ _ _ => (d_callN (d_call (ok_w_near_value T) (hr.mono (by decide)) T.g_w_near_value T.F_w_near_value.kp (bd_w_near_value T) pass0 (da_cons (dv 1) (da_cons (dv 0) (da_cons (dv 2) (da_cons (dv 3) da_nil))))))))))
      (dss_cut (ds_ifN (ds_if (dt_w (dw_andN (dw_and (dt_cmp op_gt od_gt (d_cb call_lenX cd_len T.m_len (by decide +kernel) (da_cons (dv 7) da_nil)) d_int) (dw_and1 (dt_cmp (op_eqD hr.units) od_eqN (d_callN (d_call (ok_w_take T) (hr.mono (by decide)) T.g_w_take T.F_w_take.kp (bd_w_take T) pass0 (da_cons (dv 1) (da_cons d_int da_nil)))) d_int)))))
      (dss_one (ds_set (i := 8) sc_the_law.nd (d_op op_addA od_add (d_cty (call_list_of.or (call_listR rfl)) cd_listY T.m_list (by decide +kernel) (da_cons (d_callN (d_call (ok_w_pick T) (hr.mono (by decide)) T.g_w_pick T.F_w_pick.kp (bd_w_pick T) pass0 (da_cons (dv 1) (da_cons (dv 7) da_nil)))) da_nil)) (d_slice (dv 8) do_none (do_some (d_callN (d_call (ok_w_take T) (hr.mono (by decide)) T.g_w_take T.F_w_take.kp (bd_w_take T) pass0 (da_cons (dv 1) (da_cons d_int da_nil)))))))))
      dss_nil))
      (dss_cons (ds_app 7 (d_cty call_tuple_ofX cd_tuple T.m_tuple (by decide +kernel) (da_cons (dv 8) da_nil)))
      (dss_one (ds_ifN (ds_if (dt_cmp (op_eqD hr.units) od_eqN (d_callN (d_call (ok_w_take T) (hr.mono (by decide)) T.g_w_take T.F_w_take.kp (bd_w_take T) pass0 (da_cons (dv 1) (da_cons d_int da_nil)))) d_int)
      (dss_one (ds_app 7 (d_callN (d_call (ok_w_pick T) (hr.mono (by decide)) T.g_w_pick T.F_w_pick.kp (bd_w_pick T) pass0 (da_cons (dv 1) (da_cons (dv 7) da_nil))))))
      dss_nil))))))))
      (dss_cons (ds_set (i := 9) sc_the_law.nd (d_cty (call_list_of.or (call_listR rfl)) cd_listY T.m_list (by decide +kernel) (da_cons (dv 7) da_nil)))
      (dss_cons (ds_set (i := 10) sc_the_law.nd (d_callN (d_call (ok_p_sorted_rows T) (hr.mono (by decide)) T.g_p_sorted_rows T.F_p_sorted_rows.kp (bd_p_sorted_rows T) pass0 (da_cons (dv 9) da_nil))))
      (dss_cons (ds_ifN (ds_if (dt_w (dw_orN (dw_or (dt_not (dt_val (d_isiN (d_isi .lst T.m_isinstance T.m_list (by decide +kernel) (dv 10))))) (dw_or1 (dt_not (dt_val (d_callN (d_call (ok_w_same T) (hr.mono (by decide)) T.g_w_same T.F_w_same.kp (bd_w_same T) pass0 (da_cons (dv 9) (da_cons (dv 7) da_nil))))))))))
      (dss_one (ds_ret d_bl))
      dss_nil))
      (dss_cons (ds_frz 7 (ds_forN (ds_for rfl (di_any (dv 7)) (dg_name (i := 8) sc_the_law.nd)
      (dss_one (ds_ifN (ds_if (dt_cmp (op_neD hr.units) od_neN (d_cb call_lenX cd_len T.m_len (by decide +kernel) (da_cons (d_lcN (d_lc (own := [("_law_other", 13)]) rfl sc_the_law.nd (di_any (dv 10)) (blkOk_by (N := n_the_law) (sc := defScope s_the_law) (by decide +kernel)) (fun _ _ _ _ _ => (dg_name (i := 13) sc_the_law.nd)) (fun _ _ _ _ _ => dts_one (dt_val (d_callN (d_call (ok_w_same T) (hr.mono (by decide)) T.g_w_same T.F_w_same.kp (bd_w_same T) pass0 (da_cons (dv 13) (da_cons (dv 8) da_nil)))))) (fun _ _ _ _ _ => (dv 13)))) da_nil)) d_int)
      (dss_one (ds_ret d_bl))
      dss_nil))))))
      (dss_cons (ds_forN (ds_for rfl (di_rng1 T.m_range (da_cons (d_cb call_lenX cd_len T.m_len (by decide +kernel) (da_cons (dv 10) da_nil)) da_nil)) (dg_name (i := 4) sc_the_law.nd)
      (dss_one (ds_ifN (ds_if (dt_w (dw_orN (dw_or (dt_cmp (op_notInY hr.u65) od_notInY (d_ixY hr.u65 (dv 10) (dv 4)) (dv 7)) (dw_or1 (dt_w (dw_andN (dw_and (dt_cmp op_gt od_gt (dv 4) d_int) (dw_and1 (dt_cmp (op_neD hr.units) od_neN (d_callN (d_call (ok_w_row_before T) (hr.mono (by decide)) T.g_w_row_before T.F_w_row_before.kp (bd_w_row_before T) pass0 (da_cons (d_ixY hr.u65 (dv 10) (d_op op_sub od_sub (dv 4) d_int)) (da_cons (d_ixY hr.u65 (dv 10) (dv 4)) da_nil)))) (d_neg d_int))))))))))
      (dss_one (ds_ret d_bl))
      dss_nil)))))
      (dss_cons (ds_set (i := 11) sc_the_law.nd (d_cty (call_list_of.or (call_listR rfl)) cd_listY T.m_list (by decide +kernel) (da_cons (dv 10) da_nil)))
      (dss_cons (ds_app 10 (d_tup (da_cons d_str da_nil)))
      (dss_one (ds_ret (d_andN (d_and (d_callN (d_call (ok_w_same T) (hr.mono (by decide)) T.g_w_same T.F_w_same.kp (bd_w_same T) pass0 (da_cons (dv 9) (da_cons (dv 7) da_nil)))) (d_one (d_callN (d_call (ok_w_same T) (hr.mono (by decide)) T.g_w_same T.F_w_same.kp (bd_w_same T) pass0 (da_cons (d_callN (d_call (ok_p_sorted_rows T) (hr.mono (by decide)) T.g_p_sorted_rows T.F_p_sorted_rows.kp (bd_p_sorted_rows T) pass0 (da_cons (dv 9) da_nil))) (da_cons (dv 11) da_nil))))))))))))))))))))))))
    (fun ws Q E h => by
    unfold sp_the_law spLawD at h
    split at h
    · obtain ⟨ns, rfl, hl, h⟩ := h
      walk_at "gn"
      refine fun xs xl xn xw => ?_
      have xl : xs.length = 5 := xl
      have xw : ∀ x ∈ xs, isW x = true ∧ x.length ≤ 29 := xw
      rw [str_map]
      walk_at "gn"
      refine forR_nz (fun (s : (List Val) × Option W × Option W × Option W × Option W × Option W × Option W × Option W × Option W × Option W × Option W) => ([some (.b (ns.map .int)), some (.drw), some (.l (xs.map Enc.d)), some (.l (s.1.map Enc.d)), s.2.1, s.2.2.1, s.2.2.2.1, s.2.2.2.2.1, s.2.2.2.2.2.1, s.2.2.2.2.2.2.1, s.2.2.2.2.2.2.2.1, s.2.2.2.2.2.2.2.2.1, s.2.2.2.2.2.2.2.2.2.1, s.2.2.2.2.2.2.2.2.2.2] : En)) (fun i s => s.1.length = i ∧ (∀ v ∈ s.1, v.ok = true) ∧ ∀ v ∈ s.1, vLen v ≤ 29 + i) ([], _, _, _, _, _, _, _, _, _, _) rfl ⟨rfl, (fun v hv => by cases hv), fun v hv => by cases hv⟩ (fun i s hi hs => ?_) fun s hs => ?_
      · obtain ⟨seen, j0, j1, j2, j3, j4, j5, j6, j7, j8, j9⟩ := s; dsimp only at hs ⊢
        obtain ⟨s1, s2, s3⟩ := hs
        walk_at "gn"
        refine ⟨ns, xs, seen, 29 + i, rfl, hl, by omega, fun x hx => (xw x hx).1, fun x hx => by have := (xw x hx).2; omega, s2, s3, by omega, fun v vo vl => ?_⟩
        walk_at "gn"
        exact ⟨(seen ++ [v], _, _, _, _, _, _, _, _, _, _), by rw [List.map_append]; rfl, by rw [List.length_append, s1]; rfl, all_app s2 vo, all_app (fun w hw => Nat.le_trans (s3 w hw) (by omega)) (by omega)⟩
      obtain ⟨seen, j0, j1, j2, j3, j4, j5, j6, j7, j8, j9⟩ := s; dsimp only at hs ⊢
      obtain ⟨s1, s2, s3⟩ := hs
      have s1 : seen.length = 3 := s1
      have s3 : ∀ v ∈ seen, vLen v ≤ 32 := s3
      walk_at "gn"
      refine forR_st (xs := seen) (en := Enc.d) (fun (s : (Unit) × Option W × Option W × Option W × Option W × Option W × Option W × Option W × Option W × Option W × Option W) => ([some (.b (ns.map .int)), some (.drw), some (.l (xs.map Enc.d)), some (.d (.list (seen.map Enc.d))), s.2.1, s.2.2.1, s.2.2.2.1, s.2.2.2.2.1, s.2.2.2.2.2.1, s.2.2.2.2.2.2.1, s.2.2.2.2.2.2.2.1, s.2.2.2.2.2.2.2.2.1, s.2.2.2.2.2.2.2.2.2.1, s.2.2.2.2.2.2.2.2.2.2] : En)) (fun pre s => True) ((), _, _, _, _, _, _, _, _, _, _) rfl trivial (fun pre a post s hx hs => ?_) fun s hs => ?_
      · obtain ⟨u, j0, j1, j2, j3, j4, j5, j6, j7, j8, j9⟩ := s; dsimp only at hs ⊢
        have oa : a.ok = true := s2 a (by rw [hx]; simp)
        walk_at "gn"
        refine forR_st (xs := seen) (en := Enc.d) (fun (s : (Unit) × Option W × Option W × Option W × Option W × Option W × Option W × Option W × Option W × Option W) => ([some (.b (ns.map .int)), some (.drw), some (.l (xs.map Enc.d)), some (.d (.list (seen.map Enc.d))), s.2.1, some (Ed a), s.2.2.1, s.2.2.2.1, s.2.2.2.2.1, s.2.2.2.2.2.1, s.2.2.2.2.2.2.1, s.2.2.2.2.2.2.2.1, s.2.2.2.2.2.2.2.2.1, s.2.2.2.2.2.2.2.2.2] : En)) (fun pre s => True) ((), _, _, _, _, _, _, _, _, _) rfl trivial (fun pre b post s hx hs => ?_) fun s hs => ?_
        · obtain ⟨u, j0, j1, j2, j3, j4, j5, j6, j7, j8⟩ := s; dsimp only at hs ⊢
          have ob : b.ok = true := s2 b (by rw [hx]; simp)
          walk_at "gn"
          refine ⟨a, b, rfl, rfl, oa, ob, by decide, (fun z => by cases z), ?_⟩
          walk_at "gn"
          exact ⟨((), _, _, _, _, _, _, _, _, _), rfl, trivial⟩
        · obtain ⟨u, j0, j1, j2, j3, j4, j5, j6, j7, j8⟩ := s; dsimp only at hs ⊢
          exact ⟨((), _, _, _, _, _, _, _, _, _, _), rfl, trivial⟩
      obtain ⟨u, j0, j1, j2, j3, j4, j5, j6, j7, j8, j9⟩ := s; dsimp only at hs ⊢
      walk_at "gn"
      refine fun c c0 c1 => ?_
      obtain ⟨c, rfl⟩ := Int.eq_ofNat_of_zero_le c0
      walk_at "gn"
      rw [Int.toNat_natCast]
      refine forR_nz (fun (s : (List VRow) × Option W × Option W × Option W × Option W × Option W × Option W × Option W × Option W × Option W) => ([some (.b (ns.map .int)), some (.drw), some (.l (xs.map Enc.d)), some (.d (.list (seen.map Enc.d))), s.2.1, s.2.2.1, s.2.2.2.1, some (.l (s.1.map Enc.d)), s.2.2.2.2.1, s.2.2.2.2.2.1, s.2.2.2.2.2.2.1, s.2.2.2.2.2.2.2.1, s.2.2.2.2.2.2.2.2.1, s.2.2.2.2.2.2.2.2.2] : En)) (fun i s => s.1.length ≤ 2 * i ∧ (∀ r ∈ s.1, ∀ v ∈ r, v.ok = true) ∧ ∀ r ∈ s.1, r.length ≤ 4 + i) ([], _, _, _, _, _, _, _, _, _) rfl ⟨Nat.zero_le _, (fun v hv => by cases hv), fun v hv => by cases hv⟩ (fun i s hi hs => ?_) fun s hs => ?_
      · obtain ⟨rows, j0, j1, j2, j3, j4, j5, j6, j7, j8⟩ := s; dsimp only at hs ⊢
        obtain ⟨r1, r2, r3⟩ := hs
        walk_at "gn"
        refine fun z z0 z1 => ?_
        obtain ⟨z, rfl⟩ := Int.eq_ofNat_of_zero_le z0
        walk_at "gn"
        rw [Int.toNat_natCast]
        refine lcR_eachN (β := Val) (fun v => v.ok = true) (fun i2 hi2 k z hk => ?_) fun us ul uo => ?_
        · walk_at "gn"
          refine ⟨ns, xs, seen, 32, rfl, hl, by omega, fun x hx => (xw x hx).1, fun x hx => by have := (xw x hx).2; omega, s2, s3, by omega, fun v vo vl => ?_⟩
          walk_at "gn"
          exact hk v vo
        · walk_at "gn"
          refine ⟨fun ρ => ∃ row : VRow, row.length ≤ 5 + i ∧ (∀ v ∈ row, v.ok = true) ∧ ρ = [some (.b (ns.map .int)), some .drw, some (.l (xs.map Enc.d)), some (.d (.list (seen.map Enc.d))), some (.d (.int i)), j1, j2, some (.l (rows.map Enc.d)), some (.l (row.map Enc.d)), j4, j5, j6, j7, j8], ?_, ?_⟩
          · walk_at "gn"
            rw [List.length_map]
            refine iB_d (fun e0 => ?_) (fun e0 => ?_)
            · walk_at "gn"
              refine fun q _ _ => ?_
              walk_at "gn"
              refine iB_d (fun e => ?_) (fun e => ?_)
              · walk_at "gn"
                refine allm fun r hr => ?_
                have rl := r3 r hr
                walk_at "gn"
                refine fun q2 q20 q21 => ?_
                obtain ⟨q2, rfl⟩ := Int.eq_ofNat_of_zero_le q20
                walk_at "gn"
                rw [cut_take]
                walk_at "gn"
                exact ⟨r ++ us.take q2, by rw [List.length_append, List.length_take]; omega, (fun v hv => (List.mem_append.mp hv).elim (r2 r hr v) fun hv => uo v (List.mem_of_mem_take hv)), by rw [List.map_append]; rfl⟩
              · walk_at "gn"
                exact ⟨us, by omega, uo, rfl⟩
            · walk_at "gn"
              exact ⟨us, by omega, uo, rfl⟩
          rintro _ ⟨row, w1, w2, rfl⟩
          walk_at "gn"
          have n2 : ∀ r ∈ rows ++ [row], ∀ v ∈ r, v.ok = true := all_app r2 w2
          have n3 : ∀ r ∈ rows ++ [row], r.length ≤ 4 + (i + 1) := all_app (fun r hr => Nat.le_trans (r3 r hr) (by omega)) (by omega)
          rw [show rows.map Enc.d ++ [PyData.tuple (row.map Enc.d)] = (rows ++ [row]).map Enc.d from by rw [List.map_append]; rfl]
          have nl : (rows ++ [row]).length ≤ 2 * i + 1 := by rw [List.length_append, List.length_singleton]; omega
          have np : 0 < (rows ++ [row]).length := by rw [List.length_append, List.length_singleton]; omega
          generalize rows ++ [row] = rows2 at n2 n3 nl np ⊢
          refine fun q _ _ => ?_
          walk_at "gn"
          refine iB_d (fun e => ?_) (fun e => ?_)
          · walk_at "gn"
            refine allm fun r hr => ?_
            walk_at "gn"
            exact ⟨(rows2 ++ [r], _, _, _, _, _, _, _, _, _), by rw [List.map_append]; rfl, by rw [List.length_append, List.length_singleton]; omega, all_app n2 (n2 r hr), all_app n3 (n3 r hr)⟩
          · walk_at "gn"
            exact ⟨(rows2, _, _, _, _, _, _, _, _, _), rfl, by show rows2.length ≤ _; omega, n2, n3⟩
      obtain ⟨rows, j0, j1, j2, j3, j4, j5, j6, j7, j8⟩ := s; dsimp only at hs ⊢
      obtain ⟨r1, r2, r3⟩ := hs
      walk_at "gn"
      refine forR_st (xs := rows) (en := Enc.d) (fun (s : (Unit) × Option W × Option W × Option W × Option W × Option W × Option W × Option W × Option W × Option W) => ([some (.b (ns.map .int)), some (.drw), s.2.1, s.2.2.1, s.2.2.2.1, s.2.2.2.2.1, s.2.2.2.2.2.1, some (.d (.list (rows.map Enc.d))), s.2.2.2.2.2.2.1, some (.l (rows.map Enc.d)), some (.l ((setF rows).map Enc.d)), s.2.2.2.2.2.2.2.1, s.2.2.2.2.2.2.2.2.1, s.2.2.2.2.2.2.2.2.2] : En)) (fun pre s => True) ((), _, _, _, _, _, _, _, _, _) rfl trivial (fun pre r post s hx hs => ?_) fun s hs => ?_
      · obtain ⟨u, j0, j1, j2, j3, j4, j5, j6, j7, j8⟩ := s; dsimp only at hs ⊢
        have hr : r ∈ rows := by rw [hx]; simp
        walk_at "gn"
        refine lcR_filter (xs := setF rows) (fun o => decide (o = r)) Enc.d (fun o ho k z h1 h2 => ?_) ?_
        · walk_at "gn"
          refine iB_d (fun e => ?_) (fun e => ?_)
          · walk_at "gn"
            exact h1 (decide_eq_true e)
          · walk_at "gn"
            exact h2 (decide_eq_false e)
        have f1 := filter_one (setF_asc rows).nodup (setF_mem.mpr hr)
        walk_at "gn"
        exact ⟨((), _, _, _, _, _, _, _, _, _), rfl, trivial⟩
      obtain ⟨u, j0, j1, j2, j3, j4, j5, j6, j7, j8⟩ := s; dsimp only at hs ⊢
      have sm : ∀ {r}, r ∈ setF rows → r ∈ rows := fun h => setF_mem.mp h
      have sa := setF_asc rows
      have sl := setF_len rows
      walk_at "gn"
      rw [List.length_map, Int.toNat_natCast]
      refine forR_nz (fun (s : (Unit) × Option W × Option W × Option W × Option W × Option W × Option W × Option W × Option W × Option W) => ([some (.b (ns.map .int)), some (.drw), s.2.1, s.2.2.1, s.2.2.2.1, s.2.2.2.2.1, s.2.2.2.2.2.1, some (.d (.list (rows.map Enc.d))), s.2.2.2.2.2.2.1, some (.l (rows.map Enc.d)), some (.l ((setF rows).map Enc.d)), s.2.2.2.2.2.2.2.1, s.2.2.2.2.2.2.2.2.1, s.2.2.2.2.2.2.2.2.2] : En)) (fun i s => True) ((), _, _, _, _, _, _, _, _, _) rfl trivial (fun i s hi hs => ?_) fun s hs => ?_
      · obtain ⟨u, j0, j1, j2, j3, j4, j5, j6, j7, j8⟩ := s; dsimp only at hs ⊢
        have hm : (setF rows)[i] ∈ rows := sm (List.getElem_mem hi)
        have hok : ∀ v ∈ (setF rows)[i], v.ok = true := r2 _ hm
        walk_at "gn"
        refine inX_l1 (α := VRow) (a := (setF rows)[i]) (xs := rows) ?_
        refine iB_nyes hm ?_
        walk_at "gn"
        refine iB_d (fun e => ?_) (fun e => ?_)
        · have hi2 : i - 1 < (setF rows).length := by omega
          have hok2 : ∀ v ∈ (setF rows)[i - 1], v.ok = true := r2 _ (sm (List.getElem_mem hi2))
          have ec : cmpW (setF rows)[i - 1] (setF rows)[i] = -1 := by
            have := cmpW_asc sa (k := i - 1) (by omega)
            simpa [show i - 1 + 1 = i from by omega] using this
          walk_at "gn"
          rw [show ((i : Int) - 1) = ((i - 1 : Nat) : Int) from by omega]
          refine ⟨_, atI_n hi2, ?_⟩
          walk_at "gn"
          exact ⟨((), _, _, _, _, _, _, _, _, _), rfl, trivial⟩
        · walk_at "gn"
          exact ⟨((), _, _, _, _, _, _, _, _, _), rfl, trivial⟩
      obtain ⟨u, j0, j1, j2, j3, j4, j5, j6, j7, j8⟩ := s; dsimp only at hs ⊢
      walk_at "gn"
      exact h
    · exact h.elim)
end
theorem all_mk {l : PySem.W.OpenLaw} {w : World} {K : PySem.W.Frag} {h : Heap} {mg : Str → Option Value} {fa f0 f1 f2 f3 f4 f5 f6 f7 f8 f9 f10 f11 f12 f13 f14 : Addr} (X : K.In h) (G : h.Ns mainGlobals mg) (hfa : mg "law" = some (.ref fa))
    {od0 od1 od2 od3 od4 od5 od6 od7 od8 od9 od10 od11 od12 od13 od14 an0 an1 an2 an3 an4 an5 an6 an7 an8 an9 an10 an11 an12 an13 an14 : Option Addr} {sl0 sl1 sl2 sl3 sl4 sl5 sl6 sl7 sl8 sl9 sl10 sl11 sl12 sl13 sl14 : Array (Option Value)} {oc0 oc1 oc2 oc3 oc4 oc5 oc6 oc7 oc8 oc9 oc10 oc11 oc12 oc13 oc14 kV0 kV1 kV2 kV3 kV4 kV5 kV6 kV7 kV8 kV9 kV10 kV11 kV12 kV13 kV14 dc0 dc1 dc2 dc3 dc4 dc5 dc6 dc7 dc8 dc9 dc10 dc11 dc12 dc13 dc14 pm0 pm1 pm2 pm3 pm4 pm5 pm6 pm7 pm8 pm9 pm10 pm11 pm12 pm13 pm14 cd0 cd1 cd2 cd3 cd4 cd5 cd6 cd7 cd8 cd9 cd10 cd11 cd12 cd13 cd14 ct0 ct1 ct2 ct3 ct4 ct5 ct6 ct7 ct8 ct9 ct10 ct11 ct12 ct13 ct14 : Value}
    (a0 : PySem.W.nsIn K mainGlobals "value_key" = some (some (.ref f0)))
    (l0 : K.lookup f0 = some ⟨oc0, od0, .func (PySem.W.fnOf "value_key" "value_key" (defArgs s_p_value_key) (defBody s_p_value_key) (defScope s_p_value_key) .none kV0 dc0 pm0 an0 cd0 ct0), sl0⟩)
    (c0 : PySem.W.codeIn K cd0 "value_key" = true)
    (k0 : PySem.W.keepIn K (.ref f0) = true)
    (a1 : PySem.W.nsIn K mainGlobals "row_key" = some (some (.ref f1)))
    (l1 : K.lookup f1 = some ⟨oc1, od1, .func (PySem.W.fnOf "row_key" "row_key" (defArgs s_p_row_key) (defBody s_p_row_key) (defScope s_p_row_key) .none kV1 dc1 pm1 an1 cd1 ct1), sl1⟩)
    (c1 : PySem.W.codeIn K cd1 "row_key" = true)
    (k1 : PySem.W.keepIn K (.ref f1) = true)
    (a2 : PySem.W.nsIn K mainGlobals "compare_values" = some (some (.ref f2)))
    (l2 : K.lookup f2 = some ⟨oc2, od2, .func (PySem.W.fnOf "compare_values" "compare_values" (defArgs s_p_compare_values) (defBody s_p_compare_values) (defScope s_p_compare_values) .none kV2 dc2 pm2 an2 cd2 ct2), sl2⟩)
    (c2 : PySem.W.codeIn K cd2 "compare_values" = true)
    (k2 : PySem.W.keepIn K (.ref f2) = true)
    (a3 : PySem.W.nsIn K mainGlobals "sorted_rows" = some (some (.ref f3)))
    (l3 : K.lookup f3 = some ⟨oc3, od3, .func (PySem.W.fnOf "sorted_rows" "sorted_rows" (defArgs s_p_sorted_rows) (defBody s_p_sorted_rows) (defScope s_p_sorted_rows) .none kV3 dc3 pm3 an3 cd3 ct3), sl3⟩)
    (c3 : PySem.W.codeIn K cd3 "sorted_rows" = true)
    (k3 : PySem.W.keepIn K (.ref f3) = true)
    (a4 : PySem.W.nsIn K mainGlobals "_law_draws" = some (some (.ref f4)))
    (l4 : K.lookup f4 = some ⟨oc4, od4, .func (PySem.W.fnOf "_law_draws" "_law_draws" (defArgs s_w_draws) (defBody s_w_draws) (defScope s_w_draws) .none kV4 dc4 pm4 an4 cd4 ct4), sl4⟩)
    (c4 : PySem.W.codeIn K cd4 "_law_draws" = true)
    (k4 : PySem.W.keepIn K (.ref f4) = true)
    (a5 : PySem.W.nsIn K mainGlobals "_law_take" = some (some (.ref f5)))
    (l5 : K.lookup f5 = some ⟨oc5, od5, .func (PySem.W.fnOf "_law_take" "_law_take" (defArgs s_w_take) (defBody s_w_take) (defScope s_w_take) .none kV5 dc5 pm5 an5 cd5 ct5), sl5⟩)
    (c5 : PySem.W.codeIn K cd5 "_law_take" = true)
    (k5 : PySem.W.keepIn K (.ref f5) = true)
    (a6 : PySem.W.nsIn K mainGlobals "_law_pick" = some (some (.ref f6)))
    (l6 : K.lookup f6 = some ⟨oc6, od6, .func (PySem.W.fnOf "_law_pick" "_law_pick" (defArgs s_w_pick) (defBody s_w_pick) (defScope s_w_pick) .none kV6 dc6 pm6 an6 cd6 ct6), sl6⟩)
    (c6 : PySem.W.codeIn K cd6 "_law_pick" = true)
    (k6 : PySem.W.keepIn K (.ref f6) = true)
    (a7 : PySem.W.nsIn K mainGlobals "_law_size" = some (some (.ref f7)))
    (l7 : K.lookup f7 = some ⟨oc7, od7, .func (PySem.W.fnOf "_law_size" "_law_size" (defArgs s_w_size) (defBody s_w_size) (defScope s_w_size) .none kV7 dc7 pm7 an7 cd7 ct7), sl7⟩)
    (c7 : PySem.W.codeIn K cd7 "_law_size" = true)
    (k7 : PySem.W.keepIn K (.ref f7) = true)
    (a8 : PySem.W.nsIn K mainGlobals "_law_same" = some (some (.ref f8)))
    (l8 : K.lookup f8 = some ⟨oc8, od8, .func (PySem.W.fnOf "_law_same" "_law_same" (defArgs s_w_same) (defBody s_w_same) (defScope s_w_same) .none kV8 dc8 pm8 an8 cd8 ct8), sl8⟩)
    (c8 : PySem.W.codeIn K cd8 "_law_same" = true)
    (k8 : PySem.W.keepIn K (.ref f8) = true)
    (a9 : PySem.W.nsIn K mainGlobals "_law_words" = some (some (.ref f9)))
    (l9 : K.lookup f9 = some ⟨oc9, od9, .func (PySem.W.fnOf "_law_words" "_law_words" (defArgs s_w_words) (defBody s_w_words) (defScope s_w_words) .none kV9 dc9 pm9 an9 cd9 ct9), sl9⟩)
    (c9 : PySem.W.codeIn K cd9 "_law_words" = true)
    (k9 : PySem.W.keepIn K (.ref f9) = true)
    (a10 : PySem.W.nsIn K mainGlobals "_law_any_value" = some (some (.ref f10)))
    (l10 : K.lookup f10 = some ⟨oc10, od10, .func (PySem.W.fnOf "_law_any_value" "_law_any_value" (defArgs s_w_any_value) (defBody s_w_any_value) (defScope s_w_any_value) .none kV10 dc10 pm10 an10 cd10 ct10), sl10⟩)
    (c10 : PySem.W.codeIn K cd10 "_law_any_value" = true)
    (k10 : PySem.W.keepIn K (.ref f10) = true)
    (a11 : PySem.W.nsIn K mainGlobals "_law_before" = some (some (.ref f11)))
    (l11 : K.lookup f11 = some ⟨oc11, od11, .func (PySem.W.fnOf "_law_before" "_law_before" (defArgs s_w_before) (defBody s_w_before) (defScope s_w_before) .none kV11 dc11 pm11 an11 cd11 ct11), sl11⟩)
    (c11 : PySem.W.codeIn K cd11 "_law_before" = true)
    (k11 : PySem.W.keepIn K (.ref f11) = true)
    (a12 : PySem.W.nsIn K mainGlobals "_law_near_value" = some (some (.ref f12)))
    (l12 : K.lookup f12 = some ⟨oc12, od12, .func (PySem.W.fnOf "_law_near_value" "_law_near_value" (defArgs s_w_near_value) (defBody s_w_near_value) (defScope s_w_near_value) .none kV12 dc12 pm12 an12 cd12 ct12), sl12⟩)
    (c12 : PySem.W.codeIn K cd12 "_law_near_value" = true)
    (k12 : PySem.W.keepIn K (.ref f12) = true)
    (a13 : PySem.W.nsIn K mainGlobals "_law_row_before" = some (some (.ref f13)))
    (l13 : K.lookup f13 = some ⟨oc13, od13, .func (PySem.W.fnOf "_law_row_before" "_law_row_before" (defArgs s_w_row_before) (defBody s_w_row_before) (defScope s_w_row_before) .none kV13 dc13 pm13 an13 cd13 ct13), sl13⟩)
    (c13 : PySem.W.codeIn K cd13 "_law_row_before" = true)
    (k13 : PySem.W.keepIn K (.ref f13) = true)
    (a14 : PySem.W.nsIn K mainGlobals "law" = some (some (.ref f14)))
    (l14 : K.lookup f14 = some ⟨oc14, od14, .func (PySem.W.fnOf "law" "law" (defArgs s_the_law) (defBody s_the_law) (defScope s_the_law) .none kV14 dc14 pm14 an14 cd14 ct14), sl14⟩)
    (c14 : PySem.W.codeIn K cd14 "law" = true)
    (k14 : PySem.W.keepIn K (.ref f14) = true)
    (z_abs : PySem.W.nsIn K mainGlobals "abs" = some none)
    (z_bool : PySem.W.nsIn K mainGlobals "bool" = some none)
    (z_int : PySem.W.nsIn K mainGlobals "int" = some none)
    (z_isinstance : PySem.W.nsIn K mainGlobals "isinstance" = some none)
    (z_len : PySem.W.nsIn K mainGlobals "len" = some none)
    (z_list : PySem.W.nsIn K mainGlobals "list" = some none)
    (z_max : PySem.W.nsIn K mainGlobals "max" = some none)
    (z_min : PySem.W.nsIn K mainGlobals "min" = some none)
    (z_range : PySem.W.nsIn K mainGlobals "range" = some none)
    (z_sorted : PySem.W.nsIn K mainGlobals "sorted" = some none)
    (z_str : PySem.W.nsIn K mainGlobals "str" = some none)
    (z_tuple : PySem.W.nsIn K mainGlobals "tuple" = some none) :
    ∃ fd : FuncData, (∀ (s : Shared) (v : Value), BindsTo s fd ⟨[v], []⟩ [("_law_script", v)]) ∧ ∀ base : Heap, K.In base → base.Ns mainGlobals mg → FnOk l.prog w K mg base CX0 13 fa fd ["_law_script"] (toSp ⟨K, w⟩ sp_the_law) := by
  have e := hfa.symm.trans (PySem.W.mg_of X G a14)
  cases e
  exact ⟨_, fun s v => .of_eq rfl, fun base _ _ => ok_the_law (K := K) (mg := mg) { m_abs := PySem.W.mg_none_of X G z_abs, m_bool := PySem.W.mg_none_of X G z_bool, m_int := PySem.W.mg_none_of X G z_int, m_isinstance := PySem.W.mg_none_of X G z_isinstance, m_len := PySem.W.mg_none_of X G z_len, m_list := PySem.W.mg_none_of X G z_list, m_max := PySem.W.mg_none_of X G z_max, m_min := PySem.W.mg_none_of X G z_min, m_range := PySem.W.mg_none_of X G z_range, m_sorted := PySem.W.mg_none_of X G z_sorted, m_str := PySem.W.mg_none_of X G z_str, m_tuple := PySem.W.mg_none_of X G z_tuple, f_p_value_key := _, fd_p_value_key := _, F_p_value_key := fun_mk (st := s_p_value_key) l0 c0 k0, g_p_value_key := PySem.W.mg_of X G a0, f_p_row_key := _, fd_p_row_key := _, F_p_row_key := fun_mk (st := s_p_row_key) l1 c1 k1, g_p_row_key := PySem.W.mg_of X G a1, f_p_compare_values := _, fd_p_compare_values := _, F_p_compare_values := fun_mk (st := s_p_compare_values) l2 c2 k2, g_p_compare_values := PySem.W.mg_of X G a2, f_p_sorted_rows := _, fd_p_sorted_rows := _, F_p_sorted_rows := fun_mk (st := s_p_sorted_rows) l3 c3 k3, g_p_sorted_rows := PySem.W.mg_of X G a3, f_w_draws := _, fd_w_draws := _, F_w_draws := fun_mk (st := s_w_draws) l4 c4 k4, g_w_draws := PySem.W.mg_of X G a4, f_w_take := _, fd_w_take := _, F_w_take := fun_mk (st := s_w_take) l5 c5 k5, g_w_take := PySem.W.mg_of X G a5, f_w_pick := _, fd_w_pick := _, F_w_pick := fun_mk (st := s_w_pick) l6 c6 k6, g_w_pick := PySem.W.mg_of X G a6, f_w_size := _, fd_w_size := _, F_w_size := fun_mk (st := s_w_size) l7 c7 k7, g_w_size := PySem.W.mg_of X G a7, f_w_same := _, fd_w_same := _, F_w_same := fun_mk (st := s_w_same) l8 c8 k8, g_w_same := PySem.W.mg_of X G a8, f_w_words := _, fd_w_words := _, F_w_words := fun_mk (st := s_w_words) l9 c9 k9, g_w_words := PySem.W.mg_of X G a9, f_w_any_value := _, fd_w_any_value := _, F_w_any_value := fun_mk (st := s_w_any_value) l10 c10 k10, g_w_any_value := PySem.W.mg_of X G a10, f_w_before := _, fd_w_before := _, F_w_before := fun_mk (st := s_w_before) l11 c11 k11, g_w_before := PySem.W.mg_of X G a11, f_w_near_value := _, fd_w_near_value := _, F_w_near_value := fun_mk (st := s_w_near_value) l12 c12 k12, g_w_near_value := PySem.W.mg_of X G a12, f_w_row_before := _, fd_w_row_before := _, F_w_row_before := fun_mk (st := s_w_row_before) l13 c13 k13, g_w_row_before := PySem.W.mg_of X G a13, f_the_law := _, fd_the_law := _, F_the_law := fun_mk (st := s_the_law) l14 c14 k14, g_the_law := PySem.W.mg_of X G a14 }⟩
end Pf
open PySem PySem.W PyProof.Rows
set_option maxRecDepth 100000 in
set_option maxHeartbeats 0 in
theorem PySem.Challenge.cw_everymending_k02_order_of_values_holds : PySem.Challenge.rw_everymending_k02_order_of_values.Holds := by
  w_on; o_law; k_head; (case hw => w_witness2)
  k_fill
  refine L2.walk_of (l := PySem.Challenge.rw_everymending_k02_order_of_values) (n := 63) (k := 13) (x := "_law_script") (CX := fun _ => L2.CX0) (sp := fun w => DL.toSp ⟨_, w⟩ Pf.sp_the_law) rfl (by decide) rfl ⟨rfl, by decide, by decide⟩ (fun w h Y => PySem.W.kIn_of Y) ?F (fun _ _ a ns hl _ hS => DL.law_start hl hS fun _ => rfl) (fun _ _ _ _ _ h => h)
  case F =>
    intro w mg fa h KX G hmg
    refine' Pf.all_mk KX G hmg ?a0 ?l0 ?c0 ?k0 ?a1 ?l1 ?c1 ?k1 ?a2 ?l2 ?c2 ?k2 ?a3 ?l3 ?c3 ?k3 ?a4 ?l4 ?c4 ?k4 ?a5 ?l5 ?c5 ?k5 ?a6 ?l6 ?c6 ?k6 ?a7 ?l7 ?c7 ?k7 ?a8 ?l8 ?c8 ?k8 ?a9 ?l9 ?c9 ?k9 ?a10 ?l10 ?c10 ?k10 ?a11 ?l11 ?c11 ?k11 ?a12 ?l12 ?c12 ?k12 ?a13 ?l13 ?c13 ?k13 ?a14 ?l14 ?c14 ?k14 ?z_abs ?z_bool ?z_int ?z_isinstance ?z_len ?z_list ?z_max ?z_min ?z_range ?z_sorted ?z_str ?z_tuple
    (case a0 => k_is)
    (case l0 => k_is)
    (case c0 => k_is)
    (case k0 => k_is)
    (case a1 => k_is)
    (case l1 => k_is)
    (case c1 => k_is)
    (case k1 => k_is)
    (case a2 => k_is)
    (case l2 => k_is)
    (case c2 => k_is)
    (case k2 => k_is)
    (case a3 => k_is)
    (case l3 => k_is)
    (case c3 => k_is)
    (case k3 => k_is)
    (case a4 => k_is)
    (case l4 => k_is)
    (case c4 => k_is)
    (case k4 => k_is)
    (case a5 => k_is)
    (case l5 => k_is)
    (case c5 => k_is)
    (case k5 => k_is)
    (case a6 => k_is)
    (case l6 => k_is)
    (case c6 => k_is)
    (case k6 => k_is)
    (case a7 => k_is)
    (case l7 => k_is)
    (case c7 => k_is)
    (case k7 => k_is)
    (case a8 => k_is)
    (case l8 => k_is)
    (case c8 => k_is)
    (case k8 => k_is)
    (case a9 => k_is)
    (case l9 => k_is)
    (case c9 => k_is)
    (case k9 => k_is)
    (case a10 => k_is)
    (case l10 => k_is)
    (case c10 => k_is)
    (case k10 => k_is)
    (case a11 => k_is)
    (case l11 => k_is)
    (case c11 => k_is)
    (case k11 => k_is)
    (case a12 => k_is)
    (case l12 => k_is)
    (case c12 => k_is)
    (case k12 => k_is)
    (case a13 => k_is)
    (case l13 => k_is)
    (case c13 => k_is)
    (case k13 => k_is)
    (case a14 => k_is)
    (case l14 => k_is)
    (case c14 => k_is)
    (case k14 => k_is)
    (case z_abs => k_is)
    (case z_bool => k_is)
    (case z_int => k_is)
    (case z_isinstance => k_is)
    (case z_len => k_is)
    (case z_list => k_is)
    (case z_max => k_is)
    (case z_min => k_is)
    (case z_range => k_is)
    (case z_sorted => k_is)
    (case z_str => k_is)
    (case z_tuple => k_is)
