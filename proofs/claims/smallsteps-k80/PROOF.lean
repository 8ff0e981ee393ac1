import PyProof.Rows.All
import HandS.ForMost
import HandS.ForExc
import HandS.Lambda
import HandS.TupAny
import HandS.TupMul
import HandS.Flow
import HandS.Style
import HandS.Conv
import HandS.Zip
import HandS.Rev
import HandS.Walk
import HandS.CallSlots
import HandS.IsInst
import HandS.SetFor
import KE.KDictKeyed
import KE.KDictWalk
import KE.KDictCopyH
import KE.KDictDisplayH
import HandS.Strs
import KE.DataMinMax
import KE.SortData
import HandS.Exc
import HandS.Wide
import HandS.SortInts
import KE.GoesEnum
import KE.KDictZip
import HandS.ExcIs
import KE.KExcIs
import HandS.ExcOwn
import HandS.ExcField
import HandS.ExcInit
import HandS.HotCalls
import HandS.HeadHook3
import HandS.HeadEnd
import HandS.HeadHook2
import HandS.Defaults
import HandS.EndTab
import HandS.NestedK
import HandS.HeadHook4
import KE.DatumOrd
import HandS.Head0
import HandS.Head1
import HandS.Head2
import PySem.Challenge.RW_smallsteps_k80_rows_and_marks_as_texts
set_option Elab.async false
set_option linter.all false
set_option maxRecDepth 100000
set_option Elab.async false
set_option linter.all false
set_option maxRecDepth 100000
set_option autoImplicit false
set_option maxHeartbeats 3200000
/-! dicts with tuples of ints as keys -/
namespace TD
open PySem PySem.Spec PyProof.Rows L2
abbrev Row := List Int × Addr × Value
abbrev kn (P : Program) (w : World) : HeapKind P w (List Int) := tupleKind (intKind P w)
def ent (x : Row) : DictEntry := ⟨reduceHash (Builtin.Tuple.tupleHashOf (x.1.map hashInt)), .ref x.2.1, x.2.2⟩
theorem ent_eq (P : Program) (w : World) : entryOfKey (kn P w) = ent := rfl
/-- the object at a is ob -/
def pin (a : Addr) (ob : Obj) : HO := .ext fun h => h.get? a = some ob
structure TDict (K : PySem.W.Frag) (H : Hp) (ob : Obj) (a : Addr) (xs : List Row) : Prop where
  sys : (a == sysModules) = false
  ex : ob.ExactDict
  dat : ∃ es ep, ob.data = .dict es ep ∧ es.toList = xs.map ent
  nd : (xs.map (·.1)).Nodup
  sz : xs.length ≤ sizeLine
  ky : ∀ x ∈ xs, SqT K H x.2.1 (x.1.map V.int)
theorem items_int {P : Program} {w : World} : ∀ {ks : List Int} {us : List Value}, Vals (ks.map V.int) us → ItemsAre (intKind P w) ks us
  | [], _, r => by rw [List.map_nil] at r; cases r; exact .nil
  | k :: ks, _, r => by
    rw [List.map_cons] at r
    cases r with
    | cons h t =>
      obtain ⟨tk, rfl⟩ := h
      exact .cons (show Value.isInt k (.int k tk) = true by simp [Value.isInt]) (items_int t)
section
variable {X : Cx} {pins : List (Addr × Obj)} {σ : L2.St} {H : Hp} {s : Shared} {a b : Addr} {ob : Obj} {xs : List Row} {k : List Int} {A : Around} {E : Value → Shared → Prop}
theorem key_is (I : Inv X pins σ H s) (hq : SqT X.K H b (k.map V.int)) : (kn X.prog X.w).is s.heap k b := by
  obtain ⟨us, rv, p, _⟩ := I.tuple hq
  obtain ⟨o, ho, hc, n, hd⟩ := p
  exact ⟨o, us.toArray, n, ho, hc, hd, by simpa using items_int rv⟩
theorem at_pin (I : Inv X pins σ H s) (h : H a = some (pin a ob)) : s.heap.get? a = some ob := (I.hok a _ h).1
theorem dict_of (I : Inv X pins σ H s) (h : H a = some (pin a ob)) (T : TDict X.K H ob a xs) : s.heap.DictOfH (kn X.prog X.w) a xs := by
  obtain ⟨es, ep, h1, h2⟩ := T.dat
  exact ⟨ob, es, ep, at_pin I h, T.ex, h1, h2, fun x hx => key_is I (T.ky x hx), T.nd⟩
theorem ok_pin {P : Program} {w : World} {H : Hp} {h : Heap} (e : h.get? a = some ob) : ObjOk P w H h a (pin a ob) := ⟨e, ⟨ob, e⟩, fun h1 h2 x k => k ob x⟩
theorem TDict.keep {K : PySem.W.Frag} {H H' : Hp} (T : TDict K H ob a xs) (k : ∀ b ys, SqT K H b ys → SqT K H' b ys) : TDict K H' ob a xs := ⟨T.sys, T.ex, T.dat, T.nd, T.sz, fun x hx => k _ _ (T.ky x hx)⟩
/-! ### d.get(k, x), d[k], k in d -/
theorem t_get {r : Value} {Q : Value → Shared → Prop} (hu : A.units + 1 < cLine) (I : Inv X pins σ H s) (h : H a = some (pin a ob)) (T : TDict X.K H ob a xs) (hq : SqT X.K H b (k.map V.int))
    (hQ : ∀ s', Inv X pins σ H s' → Q (((atKey xs k).map (·.2)).getD r) s') : wpAny (model X.prog X.w) A (call (.builtin "dict.get") [.ref a, .ref b, r]) Q E s := by
  have dd := dict_of I h T
  exact call_meetsIn PySem.F.slot_dict_get dd.typeIs PySem.F.entry_dict_get (PySem.F.args_dict_get_3 _ _ _) (meetsH_dict_get_default (kn X.prog X.w) a b T.sys r) ⟨tupleKind_room_in1 hu, k, xs, key_is I hq, dd, hQ _ (I.tok _)⟩
theorem t_getItem {p : Addr × Value} {Q : Value → Shared → Prop} (hu : A.units + 1 < cLine) (I : Inv X pins σ H s) (h : H a = some (pin a ob)) (T : TDict X.K H ob a xs) (hq : SqT X.K H b (k.map V.int)) (hp : atKey xs k = some p)
    (hQ : ∀ s', Inv X pins σ H s' → Q p.2 s') : wpAny (model X.prog X.w) A (getItem (.ref a) (.ref b)) Q E s :=
  wpAny_getItem_heap (tupleKind_room_in1 hu) (key_is I hq) (dict_of I h T) hp (hQ _ (I.tok _))
theorem t_in {Q : Value → Shared → Prop} (hu : A.units + 1 < cLine) (I : Inv X pins σ H s) (h : H a = some (pin a ob)) (T : TDict X.K H ob a xs) (hq : SqT X.K H b (k.map V.int))
    (hQ : ∀ s', Inv X pins σ H s' → Q (.bool (atKey xs k).isSome) s') : wpAny (model X.prog X.w) A (compareOp .In (.ref b) (.ref a)) Q E s :=
  wpAny_in_heap (tupleKind_room_in1 hu) (key_is I hq) T.sys (dict_of I h T) (hQ _ (I.tok _))
/-! ### None as a key: never there -/
theorem tell_none {stored : List Value} {Q : Bool → Shared → Prop} (hst : ∀ v ∈ stored, ∃ c k', v = .ref c ∧ (kn X.prog X.w).is s.heap k' c) (hQ : Q false s) : wpAny (model X.prog X.w) A (tableMayTell .none stored) Q E s := by
  unfold tableMayTell
  split
  · exact wpAny_pure hQ
  · rw [eqIsQuiet_byValue 8 (v := .none) rfl]
    refine wpAny_bind (wpAny_pure ?_)
    simp only [Bool.not_true, Bool.false_eq_true, if_false]
    refine wpAny_bind ?_
    refine wpAny_forIn_list _ (fun rest r s' => s' = s ∧ r = (none, ()) ∧ ∀ v ∈ rest, ∃ c k', v = .ref c ∧ (kn X.prog X.w).is s.heap k' c) _ ?_ ?_ _ _ ⟨rfl, rfl, hst⟩
    · rintro x rest r s' ⟨rfl, rfl, hr⟩
      obtain ⟨c, k', rfl, hb⟩ := hr x List.mem_cons_self
      refine wpAny_bind ((kn X.prog X.w).quiet hb ?_)
      simp only [Bool.not_true, Bool.false_eq_true, if_false]
      exact wpAny_pure ⟨rfl, rfl, fun v hv => hr v (List.mem_cons_of_mem _ hv)⟩
    · rintro r s' ⟨rfl, rfl, _⟩
      exact wpAny_pure hQ
theorem find_none {es : Array DictEntry} {ep : Nat} {hx : Int} {Q : Option Nat → Shared → Prop} (hu : A.units + 1 < cLine) (ho : s.heap.get? a = some ob) (hd : ob.data = .dict es ep)
    (his : ∀ e ∈ es, ∃ c k', e.key = .ref c ∧ (kn X.prog X.w).is s.heap k' c) (hQ : Q none s) : wpAny (model X.prog X.w) A (dictFind a .none hx) Q E s := by
  have no : ∀ {e : DictEntry} {Q : Bool → Shared → Prop} {E : Value → Shared → Prop}, e ∈ es → Q false s → wpAny (model X.prog X.w) A (eqBool e.key .none) Q E s := by
    intro e Q E he q
    obtain ⟨c, k', e1, o, items, n, h1, h2, h3, _⟩ := his e he
    rw [e1]
    exact SeqAt.EqAt.tuple_none (items := items) ⟨o, h1, h2, n, h3⟩ (by omega) _ _ _ _ q
  have hst : ∀ v ∈ (placesWithHash es.size (fun i => es[i]?.map (·.hash)) hx).filterMap (fun i => es[i]?.map (·.key)), ∃ c k', v = .ref c ∧ (kn X.prog X.w).is s.heap k' c := by
    intro v hv
    obtain ⟨i, _, hi⟩ := List.mem_filterMap.mp hv
    cases hei : es[i]? with
    | none => rw [hei] at hi; cases hi
    | some e =>
      rw [hei] at hi
      obtain rfl : e.key = v := by simpa using hi
      exact his e (Array.mem_of_getElem? hei)
  unfold dictFind
  try with_reducible refine wpAny_holding ?_
  refine wpAny_bind (wpAny_dictEntries ho hd ?_)
  dsimp only
  by_cases hall : ((Value.none :: (placesWithHash es.size (fun i => es[i]?.map (·.hash)) hx).filterMap (fun i => es[i]?.map (·.key))).all carriedByValue) = true
  · rw [if_pos hall]
    unfold dictWalkPlain
    refine wpAny_bind ?_
    refine wpAny_forIn_list _ (fun rest r s' => s' = s ∧ r = (none, ())) _ ?_ ?_ _ _ ⟨rfl, rfl⟩
    · rintro x rest r s' ⟨rfl, rfl⟩
      cases hei : es[x]? with
      | none => exact wpAny_pure ⟨rfl, rfl⟩
      | some e =>
        dsimp only
        by_cases hh : (e.hash == hx) = true
        · rw [if_pos hh]
          refine wpAny_bind (wpAny_dictEpoch ho hd (wpAny_bind (no (Array.mem_of_getElem? hei) (wpAny_bind (wpAny_dictEpoch ho hd ?_)))))
          rw [if_neg (by simp)]
          simp only [Bool.false_eq_true, if_false]
          first
            | exact wpAny_bind (wpAny_rule (wpAny_pure ⟨rfl, rfl⟩))
            | (refine wpAny_bind (wpAny_pure (wpAny_bind (wpAny_rule (wpAny_pure ⟨rfl, rfl⟩)))))
        · rw [if_neg hh]
          exact wpAny_pure ⟨rfl, rfl⟩
    · rintro r s' ⟨rfl, rfl⟩
      exact wpAny_pure hQ
  · rw [if_neg hall]
    by_cases hone : (((placesWithHash es.size (fun i => es[i]?.map (·.hash)) hx).filterMap (fun i => es[i]?.map (·.key))) == [Value.none]) = true <;>
    (first | rw [if_pos hone] | rw [if_neg hone]) <;> (first | refine wpAny_bind (wpAny_pure ?_) | refine wpAny_bind (tell_none (X := X) hst ?_)) <;> (
      rw [if_neg (by simp)]
      refine wpAny_bind ?_
      refine wpAny_forIn_list _ (fun rest r s' => s' = s ∧ r = (none, none)) _ ?_ ?_ _ _ ⟨rfl, rfl⟩
      · rintro x rest r s' ⟨rfl, rfl⟩
        cases hei : es[x]? with
        | none => exact wpAny_pure ⟨rfl, rfl⟩
        | some e =>
          dsimp only
          by_cases hh : (e.hash == hx) = true
          · rw [if_pos hh]
            refine wpAny_bind (wpAny_dictEpoch ho hd (wpAny_bind (no (Array.mem_of_getElem? hei) (wpAny_bind (wpAny_dictEpoch ho hd ?_)))))
            rw [if_neg (by simp)]
            simp only [Bool.false_eq_true, if_false]
            refine wpAny_bind (wpAny_rule ?_)
            first | rw [if_neg (by simp)] | skip
            first
              | exact wpAny_pure ⟨rfl, rfl⟩
              | exact wpAny_bind (wpAny_pure (wpAny_pure ⟨rfl, rfl⟩))
          · rw [if_neg hh]
            exact wpAny_pure ⟨rfl, rfl⟩
      · rintro r s' ⟨rfl, rfl⟩
        exact wpAny_pure hQ)
theorem rows_is (I : Inv X pins σ H s) {es : Array DictEntry} (he : es.toList = xs.map ent) (ky : ∀ x ∈ xs, SqT X.K H x.2.1 (x.1.map V.int)) : ∀ e ∈ es, ∃ c k', e.key = .ref c ∧ (kn X.prog X.w).is s.heap k' c := by
  intro e hin
  have hm : e ∈ xs.map ent := he ▸ Array.mem_toList_iff.mpr hin
  obtain ⟨x, hx, rfl⟩ := List.mem_map.mp hm
  exact ⟨x.2.1, x.1, rfl, key_is I (ky x hx)⟩
theorem dictGet_none {es : Array DictEntry} {ep : Nat} {Q : Option Value → Shared → Prop} (hu : A.units + 1 < cLine) (ho : s.heap.get? a = some ob) (hd : ob.data = .dict es ep)
    (his : ∀ e ∈ es, ∃ c k', e.key = .ref c ∧ (kn X.prog X.w).is s.heap k' c) (hQ : Q none { s with toks := s.toks + 1 }) : wpAny (model X.prog X.w) A (dictGet a .none) Q E s := by
  unfold dictGet
  try with_reducible refine wpAny_holding ?_
  exact wpAny_bind (pyHash_leaf (k := .none) (v := .none) rfl (wpAny_bind (find_none (X := X) (s := { s with toks := s.toks + 1 }) hu ho hd his (wpAny_pure hQ))))
theorem meets_get_none {es : Array DictEntry} {ep : Nat} (r : Value) (hsys : (a == sysModules) = false) :
    MeetsIn X.prog X.w (Builtin.«dict.get» ⟨[.ref a, .none, r], []⟩) (fun A R s => A.units + 2 < cLine ∧ s.heap.get? a = some ob ∧ ob.data = .dict es ep ∧ (∀ e ∈ es, ∃ c k', e.key = .ref c ∧ (kn X.prog X.w).is s.heap k' c) ∧ R (.ok (.ret r)) { s with toks := s.toks + 1 }) :=
  .of_wp fun A R s ⟨hu, ho, hd, his, h⟩ => by
    show wpAny _ _ (dictGet a .none >>= _) _ _ s
    refine wpAny_bind (dictGet_none (X := X) (by show A.in1.units + 1 < cLine; first | exact hu | (have e : A.in1.units = A.units + 1 := rfl; omega)) ho hd his ?_)
    show wpAny _ _ (Builtin.Dict.missed a .none >>= _) _ _ _
    exact wpAny_bind (wpAny_missed_other hsys (wpAny_pure ⟨r, rfl, h⟩))
theorem t_get0 {r : Value} {Q : Value → Shared → Prop} (hu : A.units + 2 < cLine) (I : Inv X pins σ H s) (h : H a = some (pin a ob)) (T : TDict X.K H ob a xs)
    (hQ : ∀ s', Inv X pins σ H s' → Q r s') : wpAny (model X.prog X.w) A (call (.builtin "dict.get") [.ref a, .none, r]) Q E s := by
  obtain ⟨es, ep, h1, h2⟩ := T.dat
  have ho := at_pin I h
  exact call_meetsIn PySem.F.slot_dict_get (dict_of I h T).typeIs PySem.F.entry_dict_get (PySem.F.args_dict_get_3 _ _ _) (meets_get_none (X := X) (ob := ob) (es := es) (ep := ep) r T.sys) ⟨hu, ho, h1, rows_is I h2 T.ky, hQ _ (I.tok _)⟩
/-! ### d[k] = v -/
theorem atKey_some {k : List Int} {p : Addr × Value} {xs : List Row} (h : atKey xs k = some p) : (k, p) ∈ xs := by
  unfold atKey at h
  obtain ⟨x, hx, rfl⟩ := Option.map_eq_some_iff.mp h
  have h1 := List.find?_some hx
  have h2 : x.1 = k := by simpa using h1
  rw [← h2]
  exact List.mem_of_find?_eq_some hx
theorem keys_stored {k : List Int} {v : Value} {xs : List Row} {x : Row} (hx : x ∈ storedH xs k b v) : (∃ y ∈ xs, x.1 = y.1 ∧ x.2.1 = y.2.1) ∨ (x.1 = k ∧ x.2.1 = b) := mem_storedH_key hx
theorem t_setItem {r : Value} {Q : Unit → Shared → Prop} (hu : A.units + 1 < cLine) (I : Inv X pins σ H s) (h : H a = some (pin a ob)) (T : TDict X.K H ob a xs) (hq : SqT X.K H b (k.map V.int)) (hl : xs.length < sizeLine)
    (hQ : ∀ ob' s', Inv X pins σ (upd H a (pin a ob')) s' → TDict X.K (upd H a (pin a ob')) ob' a (storedH xs k b r) → Q () s') : wpAny (model X.prog X.w) A (setItem (.ref a) (.ref b) r) Q E s := by
  have hz : xs.length ≤ sizeLine := T.sz
  refine wpAny_setItem_heap (hsz := hz) (tupleKind_room_in1 hu) (key_is I hq) (dict_of I h T) fun h' dd' hs => ?_
  obtain ⟨ob', es, ep, hq', h2, h3, h4, _, h5⟩ := dd'
  have mu : Mut (H a) := by rw [h]; exact True.intro
  have I1 : Inv X pins σ (upd H a (pin a ob')) { s with heap := h', toks := s.toks + (kn X.prog X.w).draws k } := I.write (x := a) (e := a) mu (.inl rfl) (fun c q hc z => (hs.2 c hc).trans z) ⟨ob', hq'⟩ (ok_pin hq')
  have kt : ∀ c ys, SqT X.K H c ys → SqT X.K (upd H a (pin a ob')) c ys := by
    intro c ys hc
    rcases hc with (hc | ⟨o, hc⟩) | hc
    · exact .inl (.inl (by rw [upd_ne (fun z => by rw [z, h] at hc; cases hc)]; exact hc))
    · exact .inl (.inr ⟨o, by rw [upd_ne (fun z => by rw [z, h] at hc; cases hc)]; exact hc⟩)
    · exact .inr hc
  refine hQ ob' _ I1 ⟨T.sys, h2, ⟨es, ep, h3, h4⟩, h5, ?_, fun x hx => ?_⟩
  · have := storedH_length xs k b r
    omega
  · rcases keys_stored hx with ⟨y, hy, e1, e2⟩ | ⟨e1, e2⟩
    · rw [e1, e2]
      exact kt _ _ (T.ky y hy)
    · rw [e1, e2]
      exact kt _ _ hq
end
theorem empty_ob {p : Addr} (hb : sysModules < p) : ∀ (K : PySem.W.Frag) (H : Hp), TDict K H { cls := .type "dict", data := .dict #[] } p [] := fun K H =>
  ⟨beq_eq_false_iff_ne.mpr (Ne.symm (Nat.ne_of_lt hb)), ⟨rfl, rfl, rfl⟩, ⟨#[], 0, rfl, rfl⟩, List.nodup_nil, Nat.zero_le _, fun x hx => nomatch hx⟩
/-! ### {} and {k: v} -/
def tNew (K : PySem.W.Frag) : TE := fun σ H Q => ∀ p ob, H p = none → (∀ H', TDict K H' ob p []) → Q (.ref p) (upd H p (pin p ob))
theorem pe_tnew {X : Cx} {pos : Pos} : PE X (.Dict [] [] pos) (tNew X.K) := ⟨fun pins s σ H Q I h => by
  have he : (s.heap.push { cls := .type "dict", data := .dict #[] }).get? s.heap.objs.size = some { cls := .type "dict", data := .dict #[] } := Heap.get?_push_size _ rfl
  exact wpAny_Dict_empty ⟨.ref s.heap.objs.size, _, I.laid (a := s.heap.objs.size) (o := pin s.heap.objs.size { cls := .type "dict", data := .dict #[] }) (t' := s.toks) (fun _ _ q => Heap.get?_push_of_some _ q) (Nat.le_refl _) (ok_pin he), rfl, h _ _ (I.hok.fresh (Nat.le_refl _)) (empty_ob I.big X.K)⟩⟩
def tDisp1 (K : PySem.W.Frag) (tk tv : TE) : TE := fun σ H Q => ∀ p ob, H p = none → (∀ H', TDict K H' ob p []) → tk σ (upd H p (pin p ob)) fun x H1 => tv σ H1 fun y H2 => ∃ b k, H2 p = some (pin p ob) ∧ x = .ref b ∧ SqT K H2 b (k.map V.int) ∧
  ∀ ob' v, RelV y v → TDict K (upd H2 p (pin p ob')) ob' p [(k, b, v)] → Q (.ref p) (upd H2 p (pin p ob'))
section
variable {X : Cx} {pins : List (Addr × Obj)} {σ : L2.St} {H : Hp} {s : Shared} {a b : Addr} {ob : Obj} {xs : List Row} {k : List Int}
theorem sq_upd {K : PySem.W.Frag} {H : Hp} {a : Addr} {ob ob' : Obj} (h : H a = some (pin a ob)) : ∀ c ys, SqT K H c ys → SqT K (upd H a (pin a ob')) c ys := by
  intro c ys hc
  rcases hc with (hc | ⟨o, hc⟩) | hc
  · exact .inl (.inl (by rw [upd_ne (fun z => by rw [z, h] at hc; cases hc)]; exact hc))
  · exact .inl (.inr ⟨o, by rw [upd_ne (fun z => by rw [z, h] at hc; cases hc)]; exact hc⟩)
  · exact .inr hc
/-- an object of ours is a dict of tuples now -/
theorem put_ob {h' : Heap} {t' : Nat} (I : Inv X pins σ H s) (h : H a = some (pin a ob)) (sys : (a == sysModules) = false) (dd : h'.DictOfH (kn X.prog X.w) a xs) (hs : Heap.SameBut a s.heap h') (sz : xs.length ≤ sizeLine) (ky : ∀ x ∈ xs, SqT X.K H x.2.1 (x.1.map V.int)) :
    ∃ ob', Inv X pins σ (upd H a (pin a ob')) { s with heap := h', toks := t' } ∧ TDict X.K (upd H a (pin a ob')) ob' a xs := by
  obtain ⟨ob', es, ep, hq', h2, h3, h4, _, h5⟩ := dd
  have mu : Mut (H a) := by rw [h]; exact True.intro
  exact ⟨ob', I.write (x := a) (e := a) mu (.inl rfl) (fun c q hc z => (hs.2 c hc).trans z) ⟨ob', hq'⟩ (ok_pin hq'), T_mk sys h2 h3 h4 h5 sz fun x hx => sq_upd h _ _ (ky x hx)⟩
where
  T_mk {K : PySem.W.Frag} {H : Hp} {ob : Obj} {a : Addr} {xs : List Row} {es : Array DictEntry} {ep : Nat} (sys : (a == sysModules) = false) (h2 : ob.ExactDict) (h3 : ob.data = .dict es ep) (h4 : es.toList = xs.map ent) (h5 : (xs.map (·.1)).Nodup) (sz : xs.length ≤ sizeLine) (ky : ∀ x ∈ xs, SqT K H x.2.1 (x.1.map V.int)) : TDict K H ob a xs := ⟨sys, h2, ⟨es, ep, h3, h4⟩, h5, sz, ky⟩
theorem pe_disp1 {ke ve : Expr} {pos : Pos} {tk tv : TE} (hu : X.A.units + 1 < cLine) (hk : PE X ke tk) (hv : PE X ve tv) : PE X (.Dict [some ke] [ve] pos) (tDisp1 X.K tk tv) := by
  refine ⟨fun pins s σ H Q I q => ?_⟩
  have hn := I.hok.fresh (Nat.le_refl s.heap.objs.size)
  have he : (s.heap.push { cls := .type "dict", data := .dict #[] }).get? s.heap.objs.size = some { cls := .type "dict", data := .dict #[] } := Heap.get?_push_size _ rfl
  have I1 := I.laid (a := s.heap.objs.size) (o := pin s.heap.objs.size { cls := .type "dict", data := .dict #[] }) (h' := s.heap.push { cls := .type "dict", data := .dict #[] }) (t' := s.toks) (fun _ _ q => Heap.get?_push_of_some _ q) (Nat.le_refl _) (ok_pin he)
  rw [arm_eval_Dict, zip_pairTrees [some ke] [ve] X.env pos rfl rfl, dictDisplay_pairs (pairTrees [some ke] [ve] X.env pos) (by simp [pairTrees]) (by simp [pairTrees])]
  refine wpAny_bind (wpAny_standAt (wpAny_bind (wpAny_subDictH (knd := kn X.prog X.w) (Q := fun d s' => wpAny (model X.prog X.w) X.A (pure (Value.ref d)) _ X.xe s') (show X.A.units < cLine by omega) (by simp [pairTrees]) ?_)))
  refine pairTrees_cons_walk (thn (hk.run pins _ σ _ _ I1 (q _ _ hn (fun H' => empty_ob I.big X.K H'))) fun u s1 ⟨x, H1, I1, rx, q1⟩ => thn (hv.run pins s1 σ H1 _ I1 q1) fun vv s2 ⟨y, H2, I2, ry, q2⟩ => pairTrees_nil_walk ?_)
  obtain ⟨b, k, e1, ex, hq, q2⟩ := q2
  subst ex
  obtain rfl : u = Value.ref b := rx
  have T0 := empty_ob I.big X.K H2
  refine ⟨[(k, b, vv)], ⟨rfl, rfl, key_is I2 hq, trivial⟩, dict_of I2 e1 T0, fun h' tk dd hs => ?_⟩
  have dd : h'.DictOfH (kn X.prog X.w) s.heap.objs.size [(k, b, vv)] := dd
  obtain ⟨ob', I3, T3⟩ := put_ob (t' := tk) I2 e1 T0.sys dd hs (by show 1 ≤ sizeLine; decide) fun x hx => by
    rw [List.mem_singleton.mp hx]
    exact hq
  exact wpAny_pure ⟨.ref s.heap.objs.size, _, I3, rfl, q2 ob' vv ry T3⟩
end
section
variable {X : Cx} {o i e f value : Expr} {pos apos cpos : Pos} {td ty tv tx : TE}
def tTGet (K : PySem.W.Frag) (td ty : TE) : TE := fun σ H Q => td σ H fun x H1 => ty σ H1 fun y H2 => ∃ a ob xs b k p v, x = .ref a ∧ H2 a = some (pin a ob) ∧ TDict K H2 ob a xs ∧ y = .ref b ∧ SqT K H2 b (k.map V.int) ∧ atKey xs k = some p ∧ RelV v p.2 ∧ Q v H2
theorem t_ty {pins : List (Addr × Obj)} {σ : L2.St} {H : Hp} {s : Shared} {a : Addr} {ob : Obj} {xs : List Row} (I : Inv X pins σ H s) (h : H a = some (pin a ob)) (T : TDict X.K H ob a xs) :
    s.TypeIs (.ref a) "dict" ∧ ∀ b, Value.ref a = .ref b → ∃ ob, s.heap.get? b = some ob ∧ ob.dict = none :=
  ⟨⟨ob, at_pin I h, T.ex.1⟩, fun b q => by cases q; exact ⟨ob, at_pin I h, T.ex.2.1⟩⟩
theorem pe_tget (hu : X.A.units + 1 < cLine) (ho : PE X o td) (hi : PE X i ty) (hs : NoSl i) : PE X (.Subscript o i pos) (tTGet X.K td ty) := by
  refine ⟨fun pins s σ H Q I h => ?_⟩
  refine subD_of PySem.F.slot_dict_getitem.lookup hs (thn (ho.run pins s σ H _ I h) fun u s1 ⟨x, H1, I1, rx, q1⟩ => thn (hi.run pins s1 σ H1 _ I1 q1) fun iv s2 ⟨y, H2, I2, ry, a, ob, xs, b, k, p, v, ex, ha, T, ey, hq, hp, rv, q2⟩ => ?_)
  subst ex ey
  obtain rfl : u = Value.ref a := rx
  obtain rfl : iv = Value.ref b := ry
  exact ⟨(t_ty I2 ha T).1, t_getItem hu I2 ha T hq hp fun s3 I3 => ⟨v, H2, I3, rv, q2⟩⟩
def tTGet2 (K : PySem.W.Frag) (td ty tx : TE) : TE := fun σ H Q => td σ H fun x H1 => ∃ a, x = .ref a ∧ (∃ ob xs, H1 a = some (pin a ob) ∧ TDict K H1 ob a xs) ∧ ty σ H1 fun y H2 => tx σ H2 fun z H3 => ∃ ob xs, H3 a = some (pin a ob) ∧ TDict K H3 ob a xs ∧
  ((y = .non ∧ Q z H3) ∨ ∃ b k, y = .ref b ∧ SqT K H3 b (k.map V.int) ∧ (∀ p, atKey xs k = some p → ∃ v, RelV v p.2 ∧ Q v H3) ∧ (atKey xs k = none → Q z H3))
theorem pe_tget2 (hu : X.A.units + 2 < cLine) (ho : PE X o td) (he : PE X e ty) (hf : PE X f tx) (m : M2 X o "get" apos e f cpos) : PE X (.Call (.Attribute o "get" apos) [e, f] [] cpos) (tTGet2 X.K td ty tx) := by
  refine ⟨fun pins s σ H Q I h => ?_⟩
  refine wpAny_Call_method m.base m.few m.line PySem.F.plainAttrs_dict PySem.F.slot_dict_get PySem.F.type_dict_get (thn (ho.run pins s σ H _ I h) fun u s1 ⟨x, H1, I1, rx, a, ex, ⟨ob, xs, ha, T⟩, q1⟩ => ?_)
  subst ex
  obtain rfl : u = Value.ref a := rx
  obtain ⟨t1, t2⟩ := t_ty I1 ha T
  refine ⟨t1, t2, ?_⟩
  rw [m.trees]
  refine Calls.callWith_builtin rfl (Calls.evalArgs_plain (Calls.spliced_cons (thn (he.run pins s1 σ H1 _ I1 q1) fun iv s2 ⟨y, H2, I2, ry, q2⟩ =>
    Calls.spliced_cons (thn (hf.run pins s2 σ H2 _ I2 q2) fun fv s3 ⟨z, H3, I3, rz, ob3, xs3, ha3, T3, q3⟩ => Calls.spliced_nil ?_))))
  rcases q3 with ⟨ey, q3⟩ | ⟨b, k, ey, hq, q3, q4⟩
  · subst ey
    obtain rfl : iv = Value.none := ry
    exact t_get0 hu I3 ha3 T3 fun s4 I4 => ⟨z, H3, I4, rz, q3⟩
  · subst ey
    obtain rfl : iv = Value.ref b := ry
    refine t_get (by omega) I3 ha3 T3 hq fun s4 I4 => ?_
    cases hk : atKey xs3 k with
    | none => exact ⟨z, H3, I4, rz, q4 hk⟩
    | some p =>
      obtain ⟨v, rv, q5⟩ := q3 p hk
      exact ⟨v, H3, I4, rv, q5⟩
def sTPut (K : PySem.W.Frag) (td ty tv : TE) : TS := fun D σ H => tv σ H fun v H1 => td σ H1 fun x H2 => ty σ H2 fun y H3 => ∃ a ob xs b k, x = .ref a ∧ H3 a = some (pin a ob) ∧ TDict K H3 ob a xs ∧ y = .ref b ∧ SqT K H3 b (k.map V.int) ∧ xs.length < sizeLine ∧
  ∀ ob' r, RelV v r → TDict K (upd H3 a (pin a ob')) ob' a (storedH xs k b r) → D.nx σ (upd H3 a (pin a ob'))
theorem ps_tput (hu : X.A.units + 1 < cLine) (ho : PE X o td) (hi : PE X i ty) (hv : PE X value tv) {pos' : Pos} (hs : swapsWith value (some (.Subscript o i pos')) pos.line X.env = pure false) :
    PS X (.Assign [.Subscript o i pos'] value pos) (sTPut X.K td ty tv) := by
  refine ⟨fun pins s σ H D I h => ?_⟩
  refine wpAny_Assign_Subscript (thn (hv.run pins s σ H _ I h) fun r s1 ⟨v, H1, I1, rv, q1⟩ => thn (ho.run pins s1 σ H1 _ I1 q1) fun u s2 ⟨x, H2, I2, rx, q2⟩ => thn (hi.run pins s2 σ H2 _ I2 q2) fun iv s3 ⟨y, H3, I3, ry, a, ob, xs, b, k, ex, ha, T, ey, hq, hl, q3⟩ => ?_) hs
  subst ex ey
  obtain rfl : u = Value.ref a := rx
  obtain rfl : iv = Value.ref b := ry
  exact t_setItem hu I3 ha T hq hl fun ob' s4 I4 T4 => ⟨σ, _, I4, q3 ob' r rv T4⟩
def tTIn (K : PySem.W.Frag) (ty td : TE) : TE := fun σ H Q => ty σ H fun y H1 => td σ H1 fun x H2 => ∃ a ob xs b k, x = .ref a ∧ H2 a = some (pin a ob) ∧ TDict K H2 ob a xs ∧ y = .ref b ∧ SqT K H2 b (k.map V.int) ∧ Q (.bl (atKey xs k).isSome) H2
theorem pc_tin (hu : X.A.units + 1 < cLine) (hi : PE X i ty) (ho : PE X o td) : PC X .In i o (tTIn X.K ty td) := by
  refine ⟨fun pins s σ H Q I h => ?_⟩
  refine thn (hi.run pins s σ H _ I h) fun iv s1 ⟨y, H1, I1, ry, q1⟩ => thn (ho.run pins s1 σ H1 _ I1 q1) fun u s2 ⟨x, H2, I2, rx, a, ob, xs, b, k, ex, ha, T, ey, hq, q2⟩ => ?_
  subst ex ey
  obtain rfl : u = Value.ref a := rx
  obtain rfl : iv = Value.ref b := ry
  exact t_in hu I2 ha T hq fun s3 I3 => ⟨.bl _, H2, I3, rfl, q2⟩
end
/-! ### walks -/
/-- the keys of the dict at a, while it stays ob -/
def ItK (a : Addr) (ob : Obj) (xs : List Row) : It :=
  ⟨fun i H => H a = some (pin a ob) ∧ i < xs.length, fun i H x H' => H' = H ∧ ∃ y, xs[i]? = some y ∧ x = .ref y.2.1, fun i H => H a = some (pin a ob) ∧ xs.length ≤ i⟩
/-- the pairs, each a new tuple -/
def ItI (a : Addr) (ob : Obj) (xs : List Row) (vs : List V) : It :=
  ⟨fun i H => H a = some (pin a ob) ∧ i < xs.length, fun i H x H' => ∃ T y v, xs[i]? = some y ∧ vs[i]? = some v ∧ x = .ref T ∧ H T = none ∧ H' = upd H T (.tup [.ref y.2.1, v]), fun i H => H a = some (pin a ob) ∧ xs.length ≤ i⟩
theorem rows_at {es : Array DictEntry} {xs : List Row} (he : es.toList = xs.map ent) (j : Nat) : es[j]? = (xs[j]?).map ent := by
  rw [← Array.getElem?_toList, he, List.getElem?_map]
theorem rows_size {es : Array DictEntry} {xs : List Row} (he : es.toList = xs.map ent) : es.size = xs.length := by
  rw [← Array.length_toList, he, List.length_map]
section
variable {P : Program} {w : World} {K : PySem.W.Frag} {tg : Expr} {a : Addr} {ob : Obj} {xs : List Row} {es : Array DictEntry} {ep : Nat}
theorem turn_tkeys (it : Addr) (hod : ob.data = .dict es ep) (he : es.toList = xs.map ent) : Turn P w K tg (ItK a ob xs) [it] it (fun i h => h.IsKeyIter it a i xs.length ep) where
  mem := by simp
  obj := fun i h st b hb => by
    have e : b = it := by simpa using hb
    subst e
    obtain ⟨oi, e, c, dd⟩ := st
    exact ⟨oi, e, fun v z => by rw [dd] at z; cases z⟩
  keep := fun i h h' st k => st.at fun oi e => k it (by simp) oi e
  item := by
    intro X hP hw hK hc i pins s σ H E I hf st hg
    subst hP hw hK
    obtain ⟨hd, hi⟩ := hg
    obtain ⟨f0, f1, f2, f3, f4, f5⟩ := hf it (by simp)
    have hy : xs[i]? = some xs[i] := List.getElem?_eq_getElem hi
    have hen : es[i]? = some (ent xs[i]) := by rw [rows_at he, hy]; rfl
    refine next_key_item st (at_pin I hd) hod (rows_size he) hen fun h' st' sb => ?_
    have I1 : Inv X pins σ H { s with heap := h' } := I.turned (t' := s.toks) (fun b ob hb e => (sb.2 b hb).trans e) f0 f1 f3 f4 f5
    obtain ⟨oi, e, c, dd⟩ := id st'
    exact ⟨(ent xs[i]).key, rfl, go_of (s := { s with heap := h' }) e c dd (by decide) ⟨.ref xs[i].2.1, H, I1, rfl, ⟨rfl, xs[i], hy, rfl⟩, st', fun b hb => (hf b hb).1⟩⟩
  done := by
    intro X hP hw hK hc i pins s σ H E I hf st hg
    subst hP hw hK
    obtain ⟨hd, hi⟩ := hg
    obtain ⟨f0, f1, f2, f3, f4, f5⟩ := hf it (by simp)
    exact next_key_end (I.ok.hd hc) st (at_pin I hd) hod (rows_size he) hi fun h' eb => ⟨rfl, I.turned (t' := s.toks) (fun b ob hb e => eb b ob hb e) f0 f1 f3 f4 f5⟩
  self := fun A i s Q E st h => by
    refine wpAny_pyIter_slot st.typeIs F.slot_dict_keyiterator_iter (wpAny_call_entry F.slot_dict_keyiterator_iter st.typeIs F.entry_dict_keyiterator_iter ?_ (F.args_dict_keyiterator_iter_1 _))
    show wpAny _ _ (ret (.ref it)) _ _ s
    exact wpAny_pure ⟨_, rfl, "dict_keyiterator", _, st.typeIs, F.slot_dict_keyiterator_next.lookup, h⟩
theorem turn_titems {vs : List V} {elts : List Expr} {kk : Nat} {tpos : Pos} (it : Addr) (hx : ob.ExactDict) (hod : ob.data = .dict es ep) (he : es.toList = xs.map ent) (hv : ∀ (i : Nat) (y : Row), xs[i]? = some y → ∃ v, vs[i]? = some v ∧ RelV v y.2.2) :
    Turn P w K (.Tuple elts kk tpos) (ItI a ob xs vs) [it] it (fun i h => ∃ ok ov, IsItemIter h it a i es.size ep ok ov) where
  mem := by simp
  obj := fun i h st b hb => by
    have e : b = it := by simpa using hb
    subst e
    obtain ⟨ok, ov, e⟩ := st
    exact ⟨_, e, fun v z => nomatch z⟩
  keep := fun i h h' st k => let ⟨ok, ov, e⟩ := st; ⟨ok, ov, k it (by simp) _ e⟩
  item := by
    intro X hP hw hK hc i pins s σ H E I hf st hg
    subst hP hw hK
    obtain ⟨hd, hi⟩ := hg
    have hie : i < es.size := by rw [rows_size he]; exact hi
    have hy : xs[i]? = some xs[i] := List.getElem?_eq_getElem hi
    have hen : es[i] = ent xs[i] := by
      have e := rows_at he i
      rw [hy, Array.getElem?_eq_getElem hie] at e
      exact Option.some.inj e
    obtain ⟨v, hv1, rv⟩ := hv i _ hy
    obtain ⟨ok, ov, hit⟩ := st
    have hlt : it < s.heap.objs.size := Heap.lt_size hit
    refine wpAny_pyNext_items_item_raw hit ⟨ob, at_pin I hd, hx, hod⟩ hie fun h' ho hT hz hk => ?_
    rw [hen] at ho hT
    refine ⟨_, rfl, wpAny_letOwnedTupleGo_items (s := { s with heap := h' }) ho fun h'' he' sb => ?_⟩
    have hT2 : h''.get? s.heap.objs.size = some { cls := .type "tuple", data := .seq #[.ref xs[i].2.1, xs[i].2.2] } := (sb.2 _ (Nat.ne_of_gt hlt)).trans hT
    have new : ObjOk X.prog X.w (upd H s.heap.objs.size (.tup [.ref xs[i].2.1, v])) h'' s.heap.objs.size (.tup [.ref xs[i].2.1, v]) :=
      ⟨by show 2 ≤ sizeLine; decide, [.ref xs[i].2.1, xs[i].2.2], .cons rfl (.cons rv .nil), ⟨_, hT2, rfl, _, rfl⟩⟩
    have I1 : Inv X pins σ (upd H s.heap.objs.size (.tup [.ref xs[i].2.1, v])) { s with heap := h'' } :=
      I.turnedNew (t' := s.toks) (ch := [it]) (fun b ob hb e => (sb.2 b (by simpa using hb)).trans (hk b ob (by simpa using hb) e)) hf (Nat.le_refl _) new
    refine ⟨.ref s.heap.objs.size, _, I1, rfl, ⟨_, xs[i], v, hy, hv1, rfl, I.hok.fresh (Nat.le_refl _), rfl⟩, ⟨_, _, he'⟩, fun b hb => ?_⟩
    have e : b = it := by simpa using hb
    rw [e, upd_ne (Nat.ne_of_lt hlt)]
    exact (hf it (by simp)).1
  done := by
    intro X hP hw hK hc i pins s σ H E I hf st hg
    subst hP hw hK
    obtain ⟨hd, hi⟩ := hg
    obtain ⟨f0, f1, f2, f3, f4, f5⟩ := hf it (by simp)
    obtain ⟨ok, ov, hit⟩ := st
    exact wpAny_pyNext_items_end_raw (I.ok.hd hc) hit ⟨ob, at_pin I hd, hx, hod⟩ (by rw [rows_size he]; exact hi) fun h' eb => ⟨rfl, I.turned (t' := s.toks) (fun b ob hb e => eb b ob hb e) f0 f1 f3 f4 f5⟩
  self := fun A i s Q E st h => let ⟨_, _, e⟩ := st; PySem.W.kcp_self e h
end
def iTK (K : PySem.W.Frag) (td : TE) : TI := fun σ H R => td σ H fun x H1 => ∃ a ob xs, x = .ref a ∧ H1 a = some (pin a ob) ∧ TDict K H1 ob a xs ∧ R (ItK a ob xs) H1
def iTI (K : PySem.W.Frag) (td : TE) : TI := fun σ H R => td σ H fun x H1 => ∃ a ob xs vs, x = .ref a ∧ H1 a = some (pin a ob) ∧ TDict K H1 ob a xs ∧ (∀ (i : Nat) (y : Row), xs[i]? = some y → ∃ v, vs[i]? = some v ∧ RelV v y.2.2) ∧ R (ItI a ob xs vs) H1
section
variable {X : Cx} {tg e : Expr} {td : TE} {apos cpos : Pos}
theorem pi_tkeys (he : PE X e td) : PI X tg e (iTK X.K td) := by
  refine ⟨fun pins s σ H R I h => ?_⟩
  refine thn (he.run pins s σ H _ I h) fun u s1 ⟨x, H1, I1, rx, a, ob, xs, ex, ha, T, q⟩ => ?_
  subst ex
  obtain rfl : u = Value.ref a := rx
  obtain ⟨es, ep, h1, h2⟩ := T.dat
  refine iter_keys T.sys (at_pin I1 ha) T.ex h1 (pi_one (tk := s1.toks) I1 _ (turn_tkeys _ h1 h2) ⟨_, Heap.get?_push_size _ rfl, rfl, ?_⟩ q)
  rw [rows_size h2]
  rfl
theorem pi_titems {elts : List Expr} {kk : Nat} {tpos : Pos} (he : PE X e td) (hbase : attributeBase e "items" X.env (eval e X.env) = eval e X.env := by rfl) (hline : (apos.endLine == cpos.line) = true := by rfl) :
    PI X (.Tuple elts kk tpos) (.Call (.Attribute e "items" apos) [] [] cpos) (iTI X.K td) := by
  refine ⟨fun pins s σ H R I h => ?_⟩
  refine wpAny_Call_method (T := "dict") (id := "dict.items") hbase rfl hline F.plainAttrs_dict F.slot_dict_items F.type_dict_items (thn (he.run pins s σ H _ I h) fun u s1 ⟨x, H1, I1, rx, a, ob, xs, vs, ex, ha, T, hv, q⟩ => ?_)
  subst ex
  obtain rfl : u = Value.ref a := rx
  obtain ⟨t1, t2⟩ := t_ty I1 ha T
  obtain ⟨es, ep, h1, h2⟩ := T.dat
  refine ⟨t1, t2, ?_⟩
  have I2 : Inv X pins σ H1 { s1 with heap := s1.heap.push { cls := .type "dict_items", data := .fields #[.ref a] } } := I1.kept (t' := s1.toks) fun b ob q => Heap.get?_push_of_some _ q
  have raw : s1.heap.DictRaw a es ep := ⟨ob, at_pin I1 ha, T.ex, h1⟩
  have fin : wpAny (model X.prog X.w) X.A (pyIter (.ref s1.heap.objs.size)) (PIE X pins σ (.Tuple elts kk tpos) R) X.xe { s1 with heap := s1.heap.push { cls := .type "dict_items", data := .fields #[.ref a] } } := by
    refine wpAny_pyIter_items_raw (d := a) ⟨_, Heap.get?_push_size _ rfl, rfl, rfl⟩ (raw.push _) (pi_one (tk := s1.toks) I2 _ (turn_titems _ T.ex h1 h2 hv) ⟨.none, .none, ?_⟩ q)
    exact Heap.get?_push_size _ rfl
  show wpAny _ _ (callWith cpos (.builtin "dict.items") [.ref a] [] []) _ X.xe s1
  exact method_meetsIn F.slot_dict_items F.entry_dict_items rfl (PySem.evalArgs_none ⟨rfl, t1, F.args_dict_items_1 _, _, meets_dict_items_raw a T.sys, ⟨es, ep, raw⟩, fin⟩)
/-! ### list(d.values()) -/
def tTVals (K : PySem.W.Frag) (td : TE) : TE := fun σ H Q => td σ H fun x H1 => ∃ a ob xs vs, x = .ref a ∧ H1 a = some (pin a ob) ∧ TDict K H1 ob a xs ∧ vs.length = xs.length ∧ (∀ (i : Nat) (y : Row), xs[i]? = some y → ∃ v, vs[i]? = some v ∧ RelV v y.2.2) ∧
  ∀ p, H1 p = none → Q (.ref p) (upd H1 p (.lst vs))
theorem pe_tvals {p : Pos} (hcm : X.calm = true) (hgl : Gl X "list") (hml : X.mg "list" = none) (he : PE X e td) (hbase : attributeBase e "values" X.env (eval e X.env) = eval e X.env := by rfl) (hline : (apos.endLine == cpos.line) = true := by rfl) {pos : Pos} :
    PE X (.Call (.Name "list" p) [.Call (.Attribute e "values" apos) [] [] cpos] [] pos) (tTVals X.K td) := by
  refine ⟨fun pins s σ H Q I h => ?_⟩
  refine Call_ (ld_blt I hgl hml (show bootBuiltins (Str.ofString "list") = some (.type "list") by decide +kernel) (PyProof.Rows.callWith_type1 (Calls.spliced_cons ?_) rfl rfl))
  refine wpAny_Call_method (T := "dict") (id := "dict.values") hbase rfl hline F.plainAttrs_dict F.slot_dict_values F.type_dict_values (thn (he.run pins s σ H _ I h) fun u s1 ⟨x, H1, I1, rx, a, ob, xs, vs, ex, ha, T, hl, hv, q⟩ => ?_)
  subst ex
  obtain rfl : u = Value.ref a := rx
  obtain ⟨t1, t2⟩ := t_ty I1 ha T
  obtain ⟨es, ep, h1, h2⟩ := T.dat
  refine ⟨t1, t2, ?_⟩
  have raw : s1.heap.DictRaw a es ep := ⟨ob, at_pin I1 ha, T.ex, h1⟩
  show wpAny _ _ (callWith cpos (.builtin "dict.values") [.ref a] [] []) _ X.xe s1
  refine method_meetsIn F.slot_dict_values F.entry_dict_values rfl (PySem.evalArgs_none ⟨rfl, t1, F.args_dict_values_1 _, _, meets_dict_values_raw a T.sys, ⟨es, ep, raw⟩, ?_⟩)
  refine Calls.spliced_nil ?_
  have hsz := rows_size h2
  refine PySem.W.kdl_call (s := { s1 with heap := s1.heap.push { cls := .type "dict_values", data := .fields #[.ref a] } }) (KdlSrc.rawValues (r := s1.heap.objs.size) (d := a) (es := es) (ep := ep)) (show _ = _ from I1.ok.hd hcm) ⟨⟨_, Heap.get?_push_size _ rfl, rfl, rfl⟩, raw.push _⟩ (by rw [hsz]; exact T.sz) fun h' tk acc cc hk hS hacc => ?_
  have keep : ∀ x o, s1.heap.get? x = some o → h'.get? x = some o := fun x o e => hk x o (Heap.get?_push_of_some _ e)
  have hlt : s1.heap.objs.size ≤ ({ s1 with heap := s1.heap.push { cls := .type "dict_values", data := .fields #[.ref a] } } : Shared).heap.objs.size := by
    show _ ≤ (s1.heap.push _).objs.size
    rw [Heap.size_push]
    exact Nat.le_succ _
  generalize hp : ({ s1 with heap := s1.heap.push { cls := .type "dict_values", data := .fields #[.ref a] } } : Shared).heap.objs.size = p0 at hS hlt ⊢
  have rel : ∀ (l : List V) (us : List Value), l.length = us.length → (∀ (i : Nat) (v : V), l[i]? = some v → ∃ u, us[i]? = some u ∧ RelV v u) → Vals l us := by
    intro l
    induction l with
    | nil =>
      intro us h1 h2
      cases us with
      | nil => exact .nil
      | cons u us => simp at h1
    | cons v l ih =>
      intro us h1 h2
      cases us with
      | nil => simp at h1
      | cons u us =>
        obtain ⟨u', e1, r1⟩ := h2 0 v rfl
        cases e1
        exact .cons r1 (ih us (by simpa using h1) fun i v' e => by simpa using h2 (i + 1) v' (by simpa using e))
  obtain ⟨a1, a2⟩ := hacc
  have new : ObjOk X.prog X.w (upd H1 p0 (.lst vs)) h' p0 (.lst vs) := by
    refine ⟨by rw [hl]; exact T.sz, acc.toList, cc, rel vs acc.toList (by have h9 : acc.toList.length = acc.size := Array.length_toList; rw [h9, a1, hl, hsz]) fun i v e => ?_, by simpa using hS⟩
    have hi : i < xs.length := by rw [← hl]; exact (List.getElem?_eq_some_iff.mp e).1
    have hia : i < acc.size := by rw [a1, hsz]; exact hi
    obtain ⟨v', e1, r1⟩ := hv i _ (List.getElem?_eq_getElem hi)
    rw [e] at e1
    cases e1
    obtain ⟨hie, e2⟩ := a2 i acc[i] (Array.getElem?_eq_getElem hia)
    refine ⟨acc[i], by rw [Array.getElem?_toList, Array.getElem?_eq_getElem hia], ?_⟩
    have e3 := rows_at h2 i
    rw [List.getElem?_eq_getElem hi, Array.getElem?_eq_getElem hie] at e3
    rw [e2, Option.some.inj e3]
    exact r1
  exact ⟨.ref p0, _, I1.laid (t' := tk) keep hlt new, rfl, q p0 (I1.hok.fresh hlt)⟩
end
/-! ### dict(l), l a list of pairs -/
section
variable {X : Cx}
theorem call_tdict (hcm : X.calm = true) (hu : X.A.units + 3 < cLine) : CallR X (.type "dict") (fun xs H Q => ∃ (l : Addr) (ps : List Addr) (rows : List (List Int × Addr × V)), xs = [.ref l] ∧ SqL X.K H l (ps.map V.ref) ∧
    Paired (fun p (r : List Int × Addr × V) => SqT X.K H p [.ref r.2.1, r.2.2] ∧ SqT X.K H r.2.1 (r.1.map V.int)) ps rows ∧
    ∀ p ob (rv : List Row), H p = none → Paired (fun (r : List Int × Addr × V) (q : Row) => r.1 = q.1 ∧ r.2.1 = q.2.1 ∧ RelV r.2.2 q.2.2) rows rv → TDict X.K (upd H p (pin p ob)) ob p (storedAllH [] rv) → Q (.ref p) (upd H p (pin p ob))) := by
  intro pins s σ H xs us Q I r q
  obtain ⟨l, ps, rows, ex, hq, hp, q⟩ := q
  subst ex
  obtain ⟨u, eu, rx⟩ := vals1 r
  subst eu
  cases rx
  obtain ⟨its, rv, pl, hz⟩ := I.list hq
  have ei := refs_at rv
  subst ei
  rw [List.length_map] at hz
  have key : ∀ {ps : List Addr} {rows : List (List Int × Addr × V)}, Paired (fun p (r : List Int × Addr × V) => SqT X.K H p [.ref r.2.1, r.2.2] ∧ SqT X.K H r.2.1 (r.1.map V.int)) ps rows →
      ∃ rw' : List Row, Paired (fun (r : List Int × Addr × V) (q : Row) => r.1 = q.1 ∧ r.2.1 = q.2.1 ∧ RelV r.2.2 q.2.2) rows rw' ∧ rw'.length = ps.length ∧ (∀ x ∈ rw', SqT X.K H x.2.1 (x.1.map V.int)) ∧
        ∀ (j : Nat) (x : Row), rw'[j]? = some x → ∃ b, ps[j]? = some b ∧ IsTup s.heap b #[.ref x.2.1, x.2.2] := by
    intro ps rows h
    induction h with
    | nil => exact ⟨[], .nil, rfl, (fun x hx => nomatch hx), fun j x e => by simp at e⟩
    | @cons p r ps rows h t ih =>
      obtain ⟨rw', r1, r2, r3, r4⟩ := ih
      obtain ⟨h1, h2⟩ := h
      obtain ⟨its, rv, ht, _⟩ := I.tuple h1
      obtain ⟨u1, y1, ei, ru, ry⟩ := vals2 rv
      subst ei
      obtain rfl : u1 = Value.ref r.2.1 := ru
      refine ⟨(r.1, r.2.1, y1) :: rw', .cons ⟨rfl, rfl, ry⟩ r1, by simp [r2], fun x hx => ?_, fun j x e => ?_⟩
      · rcases List.mem_cons.mp hx with rfl | hx
        · exact h2
        · exact r3 x hx
      · cases j with
        | zero =>
          have e' : (r.1, r.2.1, y1) = x := Option.some.inj e
          subst e'
          exact ⟨p, rfl, ht⟩
        | succ j => exact r4 j x (by simpa using e)
  obtain ⟨rw', r1, r2, r3, r4⟩ := key hp
  obtain ⟨o, n, ho, hc, hd, hdat⟩ := pl
  have P := PairArg.list (prog := X.prog) (w := X.w) l (ps.map Value.ref).toArray (fun j => ps.getD j 0) (rw'.map fun x => (Value.ref x.2.1, x.2.2))
  have ok : PlainSeq "list" s.heap l (ps.map Value.ref).toArray ∧ PairItems s.heap (ps.map Value.ref).toArray (fun j => ps.getD j 0) (rw'.map fun x => (Value.ref x.2.1, x.2.2)) := by
    refine ⟨⟨o, n, ho, hc, hd, hdat⟩, by simp [r2], fun j k v e => ?_⟩
    rw [List.getElem?_map] at e
    obtain ⟨x, e1, e2⟩ := Option.map_eq_some_iff.mp e
    cases e2
    obtain ⟨b, b1, b2⟩ := r4 j x e1
    have e3 : ps.getD j 0 = b := by rw [List.getD_eq_getElem?_getD, b1]; rfl
    show (List.map Value.ref ps).toArray[j]? = some (Value.ref (ps.getD j 0)) ∧ PairAt s.heap (ps.getD j 0) (Value.ref x.2.1) x.2.2
    rw [e3]
    refine ⟨by simp [b1], .inl ?_⟩
    obtain ⟨o', h1', h2', n', h3'⟩ := b2
    exact ⟨o', h1', h2', n', h3'⟩
  have hln : (rw'.map fun x => (Value.ref x.2.1, x.2.2)).length = rw'.length := List.length_map _
  refine call_dict_pairsH (knd := kn X.prog X.w) (ps := rw') P (I.ok.hd hcm) (show X.A.in1.in1.units < cLine by have e : X.A.in1.in1.units = X.A.units + 2 := rfl; omega) ok ⟨by simp, fun i key v e => ?_⟩ ?_ (by rw [hln, r2]; exact hz) fun h' tk hd' k => ?_
  · have e : (rw'.map fun x => (Value.ref x.2.1, x.2.2))[i]? = some (key, v) := e
    rw [List.getElem?_map] at e
    obtain ⟨x, e1, e2⟩ := Option.map_eq_some_iff.mp e
    cases e2
    exact ⟨x.1, x.2.1, e1, rfl⟩
  · intro h' hk x hx
    refine tupleKind_stays.stays (fun b o vs n e1 e2 => ?_) (key_is I (r3 x hx))
    exact hk b o (Nat.ne_of_lt (Heap.lt_size e1)) (fun z => nomatch z) e1
  · have hle : (storedAllH [] rw').length ≤ sizeLine := by
      have := storedAllH_length rw' ([] : List Row)
      rw [List.length_nil, Nat.zero_add, r2] at this
      omega
    obtain ⟨ob', es, ep, hq', h2, h3, h4, _, h5⟩ := hd'
    have hn := I.hok.fresh (Nat.le_refl s.heap.objs.size)
    have I1 : Inv X pins σ (upd H s.heap.objs.size (pin s.heap.objs.size ob')) { s with heap := h', toks := tk } := I.laid (fun b o e => k b o (fun z => nomatch z) e) (Nat.le_refl _) (ok_pin hq')
    have T : TDict X.K (upd H s.heap.objs.size (pin s.heap.objs.size ob')) ob' s.heap.objs.size (storedAllH [] rw') := by
      refine ⟨beq_eq_false_iff_ne.mpr (Nat.ne_of_gt I.big), h2, ⟨es, ep, h3, h4⟩, h5, hle, ?_⟩
      refine storedAllH_keys (P := fun (k : List Int) b => SqT X.K (upd H s.heap.objs.size (pin s.heap.objs.size ob')) b (k.map V.int)) (fun x hx => by simp at hx) fun x hx => ?_
      rcases r3 x hx with (hc | ⟨o, hc⟩) | hc
      · exact .inl (.inl (by rw [upd_ne (ne_of_none hc hn)]; exact hc))
      · exact .inl (.inr ⟨o, by rw [upd_ne (ne_of_none hc hn)]; exact hc⟩)
      · exact .inr hc
    exact ⟨.ref s.heap.objs.size, _, I1, rfl, q _ _ rw' hn r1 T⟩
/-! ### d == {} -/
theorem op_tempty (hu : X.A.units + 64 < cLine) : OpR X (compareOp .Eq) (fun x y H Q => ∃ a b ob ob2 xs, x = .ref a ∧ y = .ref b ∧ H a = some (pin a ob) ∧ TDict X.K H ob a xs ∧ H b = some (pin b ob2) ∧ TDict X.K H ob2 b [] ∧ Q (.bl xs.isEmpty) H) := by
  intro pins s σ H x y v u Q I rx ry h
  obtain ⟨a, b, ob, ob2, xs, rfl, rfl, ha, T, hb, T2, q⟩ := h
  cases rx
  cases ry
  obtain ⟨es, ep, h1, h2⟩ := T.dat
  obtain ⟨es2, ep2, h3, h4⟩ := T2.dat
  have ta := (t_ty I ha T).1
  have tb := (t_ty I hb T2).1
  show wpAny _ _ (richCompare .Eq (.ref a) (.ref b)) _ _ s
  refine PySem.wpAny_richCompare_same_room (op := .Eq) ta tb PySem.F.slot_dict_eq (wpAny_call_entry PySem.F.slot_dict_eq ta PySem.F.entry_dict_eq ?_ (PySem.F.args_dict_eq_2 _ _)) (by omega)
  show wpAny _ _ (Builtin.Dict.dictSlotArgs "__eq__" ⟨[.ref a, .ref b], []⟩ >>= _) _ _ s
  refine wpAny_bind ?_
  unfold Builtin.Dict.dictSlotArgs
  refine wpAny_bind (wpAny_notOrdered_dict ta ?_)
  show wpAny _ _ (pure (Value.ref a, Value.ref b)) _ _ s
  refine wpAny_pure ?_
  refine wpAny_bind (wpAny_isInstance (T := "dict") tb PySem.F.sub_dict_dict ?_)
  simp only [Bool.not_true, Bool.false_eq_true, if_false]
  refine wpAny_bind (wpAny_pure (wpAny_bind (wpAny_pure ?_)))
  refine wpAny_bind ?_
  unfold Builtin.Dict.samePairs Builtin.Dict.showsAll
  rw [if_neg (show ¬ (a == sysModules) = true by rw [T.sys]; exact Bool.false_ne_true), if_neg (show ¬ (b == sysModules) = true by rw [T2.sys]; exact Bool.false_ne_true)]
  refine wpAny_bind (wpAny_pure (wpAny_bind (wpAny_pure ?_)))
  have hoa := at_pin I ha
  have hob := at_pin I hb
  refine wpAny_bind (wpAny_dictEntries hoa h1 ?_)
  dsimp only
  refine wpAny_bind (wpAny_dictEntries hob h3 ?_)
  have s1 := rows_size h2
  have s2 := rows_size h4
  cases xs with
  | cons y ys =>
    rw [if_pos (by rw [s1, s2]; simp)]
    refine wpAny_bind (wpAny_rule (wpAny_pure ?_))
    refine wpAny_pure ⟨_, rfl, ?_, ?_⟩
    · exact fun x => nomatch x
    · exact ⟨.bl false, H, I, rfl, q⟩
  | nil =>
    have e0 : es.size = 0 := s1
    rw [if_neg (by rw [s1, s2]; simp)]
    refine wpAny_bind (wpAny_dictEpoch hoa h1 ?_)
    rw [e0]
    refine wpAny_bind ?_
    rw [Std.Legacy.Range.forIn_eq_forIn_range']
    show wpAny _ _ (forIn ([] : List Nat) _ _) _ _ _
    rw [List.forIn_nil]
    refine wpAny_pure ?_
    refine wpAny_pure ?_
    refine wpAny_pure ⟨_, rfl, ?_, ?_⟩
    · exact fun x => nomatch x
    · exact ⟨.bl true, H, I, rfl, q⟩
theorem op_tfull (hu : X.A.units + 64 < cLine) : OpR X (compareOp .NotEq) (fun x y H Q => ∃ a b ob ob2 xs, x = .ref a ∧ y = .ref b ∧ H a = some (pin a ob) ∧ TDict X.K H ob a xs ∧ H b = some (pin b ob2) ∧ TDict X.K H ob2 b [] ∧ Q (.bl (!xs.isEmpty)) H) := by
  intro pins s σ H x y v u Q I rx ry h
  obtain ⟨a, b, ob, ob2, xs, rfl, rfl, ha, T, hb, T2, q⟩ := h
  cases rx
  cases ry
  obtain ⟨es, ep, h1, h2⟩ := T.dat
  obtain ⟨es2, ep2, h3, h4⟩ := T2.dat
  have ta := (t_ty I ha T).1
  have tb := (t_ty I hb T2).1
  show wpAny _ _ (richCompare .NotEq (.ref a) (.ref b)) _ _ s
  refine PySem.wpAny_richCompare_same_room (op := .NotEq) ta tb PySem.F.slot_dict_ne (wpAny_call_entry PySem.F.slot_dict_ne ta PySem.F.entry_dict_ne ?_ (PySem.F.args_dict_ne_2 _ _)) (by omega)
  show wpAny _ _ (Builtin.Dict.dictSlotArgs "__ne__" ⟨[.ref a, .ref b], []⟩ >>= _) _ _ s
  refine wpAny_bind ?_
  unfold Builtin.Dict.dictSlotArgs
  refine wpAny_bind (wpAny_notOrdered_dict ta ?_)
  show wpAny _ _ (pure (Value.ref a, Value.ref b)) _ _ s
  refine wpAny_pure ?_
  refine wpAny_bind (wpAny_isInstance (T := "dict") tb PySem.F.sub_dict_dict ?_)
  simp only [Bool.not_true, Bool.false_eq_true, if_false]
  refine wpAny_bind (wpAny_pure (wpAny_bind (wpAny_pure ?_)))
  refine wpAny_bind ?_
  unfold Builtin.Dict.samePairs Builtin.Dict.showsAll
  rw [if_neg (show ¬ (a == sysModules) = true by rw [T.sys]; exact Bool.false_ne_true), if_neg (show ¬ (b == sysModules) = true by rw [T2.sys]; exact Bool.false_ne_true)]
  refine wpAny_bind (wpAny_pure (wpAny_bind (wpAny_pure ?_)))
  have hoa := at_pin I ha
  have hob := at_pin I hb
  refine wpAny_bind (wpAny_dictEntries hoa h1 ?_)
  dsimp only
  refine wpAny_bind (wpAny_dictEntries hob h3 ?_)
  have s1 := rows_size h2
  have s2 := rows_size h4
  cases xs with
  | cons y ys =>
    rw [if_pos (by rw [s1, s2]; simp)]
    refine wpAny_bind (wpAny_rule (wpAny_pure ?_))
    refine wpAny_pure ⟨_, rfl, ?_, ?_⟩
    · exact fun x => nomatch x
    · exact ⟨.bl true, H, I, rfl, q⟩
  | nil =>
    have e0 : es.size = 0 := s1
    rw [if_neg (by rw [s1, s2]; simp)]
    refine wpAny_bind (wpAny_dictEpoch hoa h1 ?_)
    rw [e0]
    refine wpAny_bind ?_
    rw [Std.Legacy.Range.forIn_eq_forIn_range']
    show wpAny _ _ (forIn ([] : List Nat) _ _) _ _ _
    rw [List.forIn_nil]
    refine wpAny_pure ?_
    refine wpAny_pure ?_
    refine wpAny_pure ⟨_, rfl, ?_, ?_⟩
    · exact fun x => nomatch x
    · exact ⟨.bl false, H, I, rfl, q⟩
theorem t_in0 {Q : Value → Shared → Prop} (hu : X.A.units + 2 < cLine) {σ : L2.St} {H : Hp} {s : Shared} {pins : List (Addr × Obj)} {a : Addr} {ob : Obj} {xs : List Row} {E : Value → Shared → Prop} (I : Inv X pins σ H s) (h : H a = some (pin a ob)) (T : TDict X.K H ob a xs)
    (hQ : ∀ s', Inv X pins σ H s' → Q (.bool false) s') : wpAny (model X.prog X.w) X.A (compareOp .In .none (.ref a)) Q E s := by
  obtain ⟨es, ep, h1, h2⟩ := T.dat
  have ho := at_pin I h
  have ta := (t_ty I h T).1
  show wpAny _ _ (do return .bool (← contains (.ref a) .none)) Q E s
  refine wpAny_bind ?_
  unfold contains
  try with_reducible refine wpAny_holding ?_
  refine wpAny_bind (wpAny_specialOf ta PySem.F.slot_dict_contains.lookup ?_)
  show wpAny _ _ (if (some (Value.builtin "dict.__contains__") == some Value.none) = true then _ else _) _ E s
  rw [if_neg (by rw [beq_builtin_none]; exact Bool.false_ne_true)]
  refine wpAny_bind (wpAny_callSpecialUnlessNone?_slot (name := Str.ofString "__contains__") ta PySem.F.slot_dict_contains
    (wpAny_call_entry PySem.F.slot_dict_contains ta PySem.F.entry_dict_contains ?_ (PySem.F.args_dict_contains_2 _ _)))
  show wpAny _ _ (dictGet a .none >>= _) _ _ s
  refine wpAny_bind (dictGet_none (X := X) (by show X.A.in1.units + 1 < cLine; first | exact hu | (have e : X.A.in1.units = X.A.units + 1 := rfl; omega)) ho h1 (rows_is I h2 T.ky) ?_)
  show wpAny _ _ (Builtin.Dict.pendingKey? a .none >>= _) _ _ _
  exact wpAny_bind (wpAny_pendingKey_other T.sys (wpAny_pure ⟨_, rfl, wpAny_truthy_bool (wpAny_pure (hQ _ (I.tok _)))⟩))
theorem op_tin (hu : X.A.units + 64 < cLine) : OpR X (compareOp .In) (fun y x H Q => ∃ a ob xs, x = .ref a ∧ H a = some (pin a ob) ∧ TDict X.K H ob a xs ∧ ((y = .non ∧ Q (.bl false) H) ∨ ∃ b k, y = .ref b ∧ SqT X.K H b (k.map V.int) ∧ Q (.bl (atKey xs k).isSome) H)) := by
  intro pins s σ H x y v u Q I rx ry h
  obtain ⟨a, ob, xs, rfl, ha, T, q⟩ := h
  cases ry
  rcases q with ⟨rfl, q⟩ | ⟨b, k, rfl, hs, q⟩
  · cases rx
    exact t_in0 (by omega) I ha T fun s' I' => ⟨.bl false, H, I', rfl, q⟩
  · cases rx
    exact t_in (by omega) I ha T hs fun s' I' => ⟨.bl _, H, I', rfl, q⟩
end
end TD
/-! dicts with whole numbers as keys, each pinned to its object -/
namespace KD
open PySem PySem.Spec PyProof.Rows L2
open TD (pin)
/-- entries with whole numbers as keys -/
inductive Es : List DictEntry → List (Key × Value) → Prop
  | nil : Es [] []
  | cons {e : DictEntry} {i : Int} {v : Value} {es : List DictEntry} {vs : List (Key × Value)} : Value.isInt i e.key = true → e.hash = hashInt i → e.val = v → Es es vs → Es (e :: es) ((.inl i, v) :: vs)
theorem Es.pairs {P : Program} {w : World} {es : List DictEntry} {vs : List (Key × Value)} (h : Es es vs) : Pairs (mixKind P w) es vs ∧ ∀ e ∈ es, ∃ k, (mixKind P w).is k e.key = true ∧ e.hash = (mixKind P w).hash k := by
  induction h with
  | nil => exact ⟨.nil, fun e h => nomatch h⟩
  | @cons e i v es vs h1 h2 h3 _ ih =>
    refine ⟨.cons h1 h3 ih.1, fun e' he => ?_⟩
    rcases List.mem_cons.mp he with rfl | he
    · exact ⟨.inl i, h1, h2⟩
    · exact ih.2 e' he
theorem Es.of {P : Program} {w : World} {es : List DictEntry} {vs : List (Key × Value)} (h : Pairs (mixKind P w) es vs) : (∀ e ∈ es, ∃ k, (mixKind P w).is k e.key = true ∧ e.hash = (mixKind P w).hash k) → (∀ p ∈ vs, ∃ i, p.1 = .inl i) → Es es vs := by
  induction h with
  | nil => exact fun _ _ => .nil
  | @cons e kv es vs h1 h2 _ ih =>
    intro hk hi
    obtain ⟨k, v⟩ := kv
    obtain ⟨i, ei⟩ := hi _ List.mem_cons_self
    dsimp only at ei
    subst ei
    obtain ⟨k', e1, e2⟩ := hk e List.mem_cons_self
    have ek : k' = .inl i := (mixKind P w).inj _ _ _ e1 h1
    subst ek
    exact .cons h1 e2 h2 (ih (fun e' he => hk e' (List.mem_cons_of_mem _ he)) fun p hp => hi p (List.mem_cons_of_mem _ hp))
def Ints {α : Type} (kvs : List (Key × α)) : Prop := ∀ p ∈ kvs, ∃ i : Int, p.1 = .inl i
theorem ints_kv {kvs : List (Key × V)} {vs : List (Key × Value)} (h : KV kvs vs) : Ints kvs → Ints vs := by
  unfold KV at h
  induction h with
  | nil => exact fun _ p hp => nomatch hp
  | @cons a b l1 l2 r t ih =>
    intro hi p hp
    rcases List.mem_cons.mp hp with rfl | hp
    · obtain ⟨i, e⟩ := hi a List.mem_cons_self
      exact ⟨i, by rw [← r.1, e]⟩
    · exact ih (fun q hq => hi q (List.mem_cons_of_mem _ hq)) p hp
theorem ints_put {kvs : List (Key × V)} {i : Int} {v : V} (h : Ints kvs) : Ints (putK kvs (.inl i) v) := by
  intro p hp
  unfold putK at hp
  split at hp
  · obtain ⟨q, hq, rfl⟩ := List.mem_map.mp hp
    obtain ⟨j, e⟩ := h q hq
    split
    · first | exact ⟨i, rfl⟩ | exact ⟨j, e⟩
    · exact ⟨j, e⟩
  · rcases List.mem_append.mp hp with hp | hp
    · exact h p hp
    · rw [List.mem_singleton.mp hp]
      exact ⟨i, rfl⟩
structure KDict (ob : Obj) (a : Addr) (kvs : List (Key × V)) : Prop where
  sys : (a == sysModules) = false
  ex : ob.ExactDict
  sz : kvs.length ≤ sizeLine
  dat : ∃ es ep vs, ob.data = .dict es ep ∧ Es es.toList vs ∧ (vs.map (·.1)).Nodup ∧ KV kvs vs
theorem Es.ints {es : List DictEntry} {vs : List (Key × Value)} (h : Es es vs) : Ints vs := by
  induction h with
  | nil => exact fun p hp => nomatch hp
  | cons _ _ _ _ ih =>
    intro p hp
    rcases List.mem_cons.mp hp with rfl | hp
    · exact ⟨_, rfl⟩
    · exact ih p hp
theorem kv_ints {kvs : List (Key × V)} {vs : List (Key × Value)} (h : KV kvs vs) : Ints vs → Ints kvs := by
  unfold KV at h
  induction h with
  | nil => exact fun _ p hp => nomatch hp
  | @cons a b l1 l2 r t ih =>
    intro hi p hp
    rcases List.mem_cons.mp hp with rfl | hp
    · obtain ⟨i, e⟩ := hi b List.mem_cons_self
      exact ⟨i, by rw [r.1, e]⟩
    · exact ih (fun q hq => hi q (List.mem_cons_of_mem _ hq)) p hp
theorem KDict.ints {ob : Obj} {a : Addr} {kvs : List (Key × V)} (T : KDict ob a kvs) : Ints kvs := by
  obtain ⟨es, ep, vs, _, h2, _, h4⟩ := T.dat
  exact kv_ints h4 h2.ints
section
variable {X : Cx} {pins : List (Addr × Obj)} {σ : L2.St} {H : Hp} {s : Shared} {a b : Addr} {ob : Obj} {kvs : List (Key × V)} {k : Key} {A : Around} {E : Value → Shared → Prop} {y v : V} {u r : Value}
theorem at_pin (I : Inv X pins σ H s) (h : H a = some (pin a ob)) : s.heap.get? a = some ob := (I.hok a _ h).1
theorem ok_pin {P : Program} {w : World} {H : Hp} {h : Heap} (e : h.get? a = some ob) : ObjOk P w H h a (pin a ob) := ⟨e, ⟨ob, e⟩, fun h1 h2 x k => k ob x⟩
theorem dict_of (I : Inv X pins σ H s) (h : H a = some (pin a ob)) (T : KDict ob a kvs) : ∃ vs, KV kvs vs ∧ s.heap.DictOf (mixKind X.prog X.w) a vs := by
  obtain ⟨es, ep, vs, h1, h2, h3, h4⟩ := T.dat
  obtain ⟨p1, p2⟩ := h2.pairs (P := X.prog) (w := X.w)
  exact ⟨vs, h4, ob, es, ep, at_pin I h, T.ex, h1, fun e he => p2 e (Array.mem_toList_iff.mpr he), p1, h3⟩
theorem of_dict {P : Program} {w : World} {h : Heap} {vs : List (Key × Value)} (sys : (a == sysModules) = false) (sz : kvs.length ≤ sizeLine) (rel : KV kvs vs) (hi : Ints kvs) (dd : h.DictOf (mixKind P w) a vs) : ∃ ob, h.get? a = some ob ∧ KDict ob a kvs := by
  obtain ⟨ob, es, ep, h1, h2, h3, h4, h5, h6⟩ := dd
  exact ⟨ob, h1, sys, h2, sz, es, ep, vs, h3, .of h5 (fun e he => h4 e (Array.mem_toList_iff.mp he)) (ints_kv rel hi), h6, rel⟩
theorem k_ty (I : Inv X pins σ H s) (h : H a = some (pin a ob)) (T : KDict ob a kvs) :
    s.TypeIs (.ref a) "dict" ∧ ∀ b, Value.ref a = .ref b → ∃ ob, s.heap.get? b = some ob ∧ ob.dict = none :=
  ⟨⟨ob, at_pin I h, T.ex.1⟩, fun b q => by cases q; exact ⟨ob, at_pin I h, T.ex.2.1⟩⟩
/-! ### d[k], k in d, len(d) -/
theorem k_getItem {Q : Value → Shared → Prop} (I : Inv X pins σ H s) (h : H a = some (pin a ob)) (T : KDict ob a kvs) (l : valV kvs k = some v) (ry : RelV (kV k) u) (hQ : ∀ w' s', Inv X pins σ H s' → RelV v w' → Q w' s') : wpAny (model X.prog X.w) A (getItem (.ref a) u) Q E s := by
  obtain ⟨vs, rel, dd⟩ := dict_of I h T
  obtain ⟨w', hw, rw'⟩ := RelO.some_of (v := v) (o := valueAt vs k) (by rw [← l]; exact rel.val k)
  exact wpAny_getItem_of (kV_is ry) dd.mapOf hw (hQ w' _ (I.tok _) rw')
theorem k_in {Q : Value → Shared → Prop} (I : Inv X pins σ H s) (h : H a = some (pin a ob)) (T : KDict ob a kvs) (ry : RelV (kV k) u) (hQ : ∀ s', Inv X pins σ H s' → Q (.bool (valV kvs k).isSome) s') : wpAny (model X.prog X.w) A (compareOp .In u (.ref a)) Q E s := by
  obtain ⟨vs, rel, dd⟩ := dict_of I h T
  refine wpAny_in_of (kV_is ry) T.sys dd.mapOf ?_
  rw [← (rel.val k).isSome_eq]
  exact hQ _ (I.tok _)
theorem k_notIn {Q : Value → Shared → Prop} (I : Inv X pins σ H s) (h : H a = some (pin a ob)) (T : KDict ob a kvs) (ry : RelV (kV k) u) (hQ : ∀ s', Inv X pins σ H s' → Q (.bool (!(valV kvs k).isSome)) s') : wpAny (model X.prog X.w) A (compareOp .NotIn u (.ref a)) Q E s := by
  obtain ⟨vs, rel, dd⟩ := dict_of I h T
  refine wpAny_notIn_of (kV_is ry) T.sys dd.mapOf ?_
  rw [← (rel.val k).isSome_eq]
  exact hQ _ (I.tok _)
theorem k_len {Q : Value → Shared → Prop} (I : Inv X pins σ H s) (h : H a = some (pin a ob)) (T : KDict ob a kvs) (hQ : ∀ t s', Inv X pins σ H s' → Q (.int kvs.length t) s') : wpAny (model X.prog X.w) A (call (.builtin "len") [.ref a]) Q E s := by
  obtain ⟨vs, rel, dd⟩ := dict_of I h T
  have z := T.sz
  refine call_len_dict T.sys dd (by rw [← rel.length]; rw [sizeLine_eq] at z; omega) ?_
  rw [← rel.length]
  exact hQ _ _ (I.tok _)
/-! ### d[k] = v -/
theorem k_setItem {Q : Unit → Shared → Prop} (I : Inv X pins σ H s) (h : H a = some (pin a ob)) (T : KDict ob a kvs) (hi : Ints (putK kvs k v)) (hl : kvs.length < sizeLine) (ry : RelV (kV k) u) (rv : RelV v r)
    (hQ : ∀ ob' s', Inv X pins σ (upd H a (pin a ob')) s' → KDict ob' a (putK kvs k v) → Q () s') : wpAny (model X.prog X.w) A (setItem (.ref a) u r) Q E s := by
  obtain ⟨vs, rel, dd⟩ := dict_of I h T
  have hz : vs.length ≤ sizeLine := by rw [← rel.length]; exact T.sz
  have hl' : (putK kvs k v).length ≤ sizeLine := by have := length_putK kvs k v; omega
  refine wpAny_setItem_pairs (hsz := hz) (kV_is ry) dd fun h' dd' hs => ?_
  obtain ⟨ob', e', T'⟩ := of_dict T.sys hl' (rel.put k rv) hi dd'
  have mu : Mut (H a) := by rw [h]; exact True.intro
  exact hQ ob' _ (I.write (x := a) (e := a) mu (.inl rfl) (fun c q hc z => (hs.2 c hc).trans z) ⟨ob', e'⟩ (ok_pin e')) T'
/-- a tracked dict is pinned -/
theorem pin_of (I : Inv X pins σ H s) (h : H a = some (.dK kvs)) (hi : Ints kvs) : ∃ ob, Inv X pins σ (upd H a (pin a ob)) s ∧ KDict ob a kvs := by
  obtain ⟨z, hd, vs, rel, dd⟩ := dk_of I.hok h
  obtain ⟨ob, e, T⟩ := of_dict hd z rel hi dd
  have mu : Mut (H a) := by rw [h]; exact True.intro
  exact ⟨ob, I.write (x := a) (e := a) (t' := s.toks) (h' := s.heap) mu (.inl rfl) (fun b v _ q => q) ⟨ob, e⟩ (ok_pin e), T⟩
end
/-! ### rules -/
section
variable {X : Cx} {o i e value : Expr} {pos pos' apos cpos : Pos} {td ty tv t : TE}
/-- a new dict is pinned -/
def tPin (t : TE) : TE := fun σ H Q => t σ H fun v H' => ∃ p kvs, v = .ref p ∧ H' p = some (.dK kvs) ∧ Ints kvs ∧ ∀ ob, KDict ob p kvs → Q v (upd H' p (pin p ob))
theorem pe_pin (he : PE X e t) : PE X e (tPin t) := by
  refine ⟨fun pins s σ H Q I h => thn (he.run pins s σ H _ I h) fun u s1 ⟨x, H1, I1, rx, p, kvs, ex, hp, hi, q⟩ => ?_⟩
  obtain ⟨ob, I2, T⟩ := pin_of I1 hp hi
  exact ⟨x, _, I2, rx, q ob T⟩
def tKGet (td ty : TE) : TE := fun σ H Q => td σ H fun x H1 => ty σ H1 fun y H2 => ∃ a ob kvs k v, x = .ref a ∧ H2 a = some (pin a ob) ∧ KDict ob a kvs ∧ y = kV k ∧ valV kvs k = some v ∧ Q v H2
theorem pe_kget (ho : PE X o td) (hi : PE X i ty) (hs : NoSl i) : PE X (.Subscript o i pos) (tKGet td ty) := by
  refine ⟨fun pins s σ H Q I h => ?_⟩
  refine subD_of PySem.F.slot_dict_getitem.lookup hs (thn (ho.run pins s σ H _ I h) fun u s1 ⟨x, H1, I1, rx, q1⟩ => thn (hi.run pins s1 σ H1 _ I1 q1) fun iv s2 ⟨y, H2, I2, ry, a, ob, kvs, k, v, ex, ha, T, ey, hv, q2⟩ => ?_)
  subst ex ey
  obtain rfl : u = Value.ref a := rx
  exact ⟨(k_ty I2 ha T).1, k_getItem I2 ha T hv ry fun w' s3 I3 rw' => ⟨v, H2, I3, rw', q2⟩⟩
theorem op_kin : OpR X (compareOp .In) (fun y x H Q => ∃ a ob kvs k, x = .ref a ∧ H a = some (pin a ob) ∧ KDict ob a kvs ∧ y = kV k ∧ Q (.bl (valV kvs k).isSome) H) := by
  intro pins s σ H y x v u Q I ry rx h
  obtain ⟨a, ob, kvs, k, rfl, ha, T, rfl, q⟩ := h
  obtain rfl : u = Value.ref a := rx
  exact k_in I ha T ry fun s' I' => ⟨.bl _, H, I', rfl, q⟩
theorem op_knotin : OpR X (compareOp .NotIn) (fun y x H Q => ∃ a ob kvs k, x = .ref a ∧ H a = some (pin a ob) ∧ KDict ob a kvs ∧ y = kV k ∧ Q (.bl (!(valV kvs k).isSome)) H) := by
  intro pins s σ H y x v u Q I ry rx h
  obtain ⟨a, ob, kvs, k, rfl, ha, T, rfl, q⟩ := h
  obtain rfl : u = Value.ref a := rx
  exact k_notIn I ha T ry fun s' I' => ⟨.bl _, H, I', rfl, q⟩
theorem cr_klen : CallR X (.builtin "len") (fun xs H Q => ∃ a ob kvs, xs = [.ref a] ∧ H a = some (pin a ob) ∧ KDict ob a kvs ∧ Q (.int kvs.length) H) := by
  intro pins s σ H xs us Q I r h
  obtain ⟨a, ob, kvs, rfl, ha, T, q⟩ := h
  obtain ⟨u, eu, rx⟩ := vals1 r
  subst eu
  cases rx
  exact k_len I ha T fun t s' I' => ⟨.int _, H, I', ⟨t, rfl⟩, q⟩
def sKPut (td ty tv : TE) : TS := fun D σ H => tv σ H fun v H1 => td σ H1 fun x H2 => ty σ H2 fun y H3 => ∃ a ob kvs k, x = .ref a ∧ H3 a = some (pin a ob) ∧ KDict ob a kvs ∧ y = kV k ∧ kvs.length < sizeLine ∧ Ints (putK kvs k v) ∧
  ∀ ob', KDict ob' a (putK kvs k v) → D.nx σ (upd H3 a (pin a ob'))
theorem ps_kput (ho : PE X o td) (hi : PE X i ty) (hv : PE X value tv) (hs : swapsWith value (some (.Subscript o i pos')) pos.line X.env = pure false) :
    PS X (.Assign [.Subscript o i pos'] value pos) (sKPut td ty tv) := by
  refine ⟨fun pins s σ H D I h => ?_⟩
  refine wpAny_Assign_Subscript (thn (hv.run pins s σ H _ I h) fun r s1 ⟨v, H1, I1, rv, q1⟩ => thn (ho.run pins s1 σ H1 _ I1 q1) fun u s2 ⟨x, H2, I2, rx, q2⟩ => thn (hi.run pins s2 σ H2 _ I2 q2) fun iv s3 ⟨y, H3, I3, ry, a, ob, kvs, k, ex, ha, T, ey, hl, hi, q3⟩ => ?_) hs
  subst ex ey
  obtain rfl : u = Value.ref a := rx
  exact k_setItem I3 ha T hi hl ry rv fun ob' s4 I4 T4 => ⟨σ, _, I4, q3 ob' T4⟩
/-! ### dict(d) -/
theorem call_kdict (hcm : X.calm = true) : CallR X (.type "dict") (fun xs H Q => ∃ a ob kvs, xs = [.ref a] ∧ H a = some (pin a ob) ∧ KDict ob a kvs ∧ ∀ p ob', H p = none → KDict ob' p kvs → Q (.ref p) (upd H p (pin p ob'))) := by
  intro pins s σ H xs us Q I r h
  obtain ⟨a, ob, kvs, rfl, ha, T, q⟩ := h
  obtain ⟨u, eu, rx⟩ := vals1 r
  subst eu
  cases rx
  obtain ⟨vs, rel, dd⟩ := dict_of I ha T
  refine kt_call_dict T.sys dd (by rw [← rel.length]; exact T.sz) fun h' dd' hs => ?_
  have hn := I.hok.fresh (Nat.le_refl s.heap.objs.size)
  obtain ⟨ob', e', T'⟩ := of_dict (beq_eq_false_iff_ne.mpr (Nat.ne_of_gt I.big)) T.sz rel T.ints dd'
  have keep : ∀ b o, s.heap.get? b = some o → h'.get? b = some o := fun b o e => (hs.2 b (Nat.ne_of_lt (Heap.lt_size e))).trans (Heap.get?_push_of_some _ e)
  have I1 : Inv X pins σ (upd H s.heap.objs.size (pin s.heap.objs.size ob')) { s with heap := h' } := I.laid (t' := s.toks) keep (Nat.le_refl _) (ok_pin e')
  exact ⟨.ref s.heap.objs.size, _, I1, rfl, q _ ob' hn T'⟩
end
/-! ### walks -/
def ItK (a : Addr) (ob : Obj) (kvs : List (Key × V)) : It :=
  ⟨fun i H => H a = some (pin a ob) ∧ i < kvs.length, fun i H x H' => H' = H ∧ ∃ k v, kvs[i]? = some (k, v) ∧ x = kV k, fun i H => H a = some (pin a ob) ∧ kvs.length ≤ i⟩
def ItV (a : Addr) (ob : Obj) (kvs : List (Key × V)) : It :=
  ⟨fun i H => H a = some (pin a ob) ∧ i < kvs.length, fun i H x H' => H' = H ∧ ∃ k, kvs[i]? = some (k, x), fun i H => H a = some (pin a ob) ∧ kvs.length ≤ i⟩
section
variable {P : Program} {w : World} {K : PySem.W.Frag} {tg : Expr} {a : Addr} {ob : Obj} {es : Array DictEntry} {ep : Nat} {kvs : List (Key × V)}
theorem dict_at {X : Cx} {pins : List (Addr × Obj)} {σ : L2.St} {H : Hp} {s : Shared} (I : Inv X pins σ H s) (h : H a = some (pin a ob)) (T : KDict ob a kvs) (hod : ob.data = .dict es ep) :
    es.size = kvs.length ∧ ∃ vs, KV kvs vs ∧ s.heap.DictAt (mixKind X.prog X.w) a vs ep := by
  obtain ⟨es', ep', vs, h1, h2, h3, h4⟩ := T.dat
  obtain ⟨rfl, rfl⟩ := dict_ep hod h1
  obtain ⟨p1, p2⟩ := h2.pairs (P := X.prog) (w := X.w)
  refine ⟨?_, vs, h4, ob, es', at_pin I h, T.ex, h1, fun e he => p2 e (Array.mem_toList_iff.mpr he), p1, h3⟩
  have l1 := p1.length
  have l2 : kvs.length = vs.length := Paired.length h4
  rw [Array.length_toList] at l1
  omega
theorem turn_kkeys (it : Addr) (T : KDict ob a kvs) (hod : ob.data = .dict es ep) : Turn P w K tg (ItK a ob kvs) [it] it (fun i h => h.IsKeyIter it a i kvs.length ep) where
  mem := by simp
  obj := fun i h st b hb => by
    have e : b = it := by simpa using hb
    subst e
    obtain ⟨oi, e, c, dd⟩ := st
    exact ⟨oi, e, fun v z => by rw [dd] at z; cases z⟩
  keep := fun i h h' st k => st.at fun oi e => k it (by simp) oi e
  item := by
    intro X hP hw hK hc i pins s σ H E I hf st hg
    subst hP hw hK
    obtain ⟨hd, hi⟩ := hg
    obtain ⟨f0, f1, f2, f3, f4, f5⟩ := hf it (by simp)
    obtain ⟨hsz, vs, kv, hm⟩ := dict_at I hd T hod
    obtain ⟨⟨k, v⟩, hkv⟩ : ∃ p, kvs[i]? = some p := ⟨kvs[i], List.getElem?_eq_getElem hi⟩
    obtain ⟨u, hu, ru⟩ := kv_get kv hkv
    have hl : kvs.length = vs.length := Paired.length kv
    rw [hl] at st
    refine wpAny_pyNext_dict_item st hm hu fun key h' hkey st' sb => ?_
    have I1 : Inv X pins σ H { s with heap := h' } := I.turned (t' := s.toks) (fun b ob hb e => (sb.2 b hb).trans e) f0 f1 f3 f4 f5
    obtain ⟨oi, e, c, dd⟩ := id st'
    refine ⟨key, rfl, go_of (s := { s with heap := h' }) e c dd (by decide) ⟨kV k, H, I1, relV_key (show keyIs k key = true from hkey), ⟨rfl, k, v, hkv, rfl⟩, ?_, fun b hb => (hf b hb).1⟩⟩
    show h'.IsKeyIter it a (i + 1) kvs.length _
    rw [hl]
    exact st'
  done := by
    intro X hP hw hK hc i pins s σ H E I hf st hg
    subst hP hw hK
    obtain ⟨hd, hi⟩ := hg
    obtain ⟨f0, f1, f2, f3, f4, f5⟩ := hf it (by simp)
    obtain ⟨hsz, vs, kv, hm⟩ := dict_at I hd T hod
    exact next_key_end (I.ok.hd hc) st (at_pin I hd) hod hsz hi fun h' eb => ⟨rfl, I.turned (t' := s.toks) (fun b ob hb e => eb b ob hb e) f0 f1 f3 f4 f5⟩
  self := fun A i s Q E st h => wpAny_pyIter_keyiter st h
theorem turn_kvals (it : Addr) (T : KDict ob a kvs) (hod : ob.data = .dict es ep) : Turn P w K tg (ItV a ob kvs) [it] it (fun i h => h.IsValIter it a i kvs.length ep) where
  mem := by simp
  obj := fun i h st b hb => by
    have e : b = it := by simpa using hb
    subst e
    obtain ⟨oi, e, c, dd⟩ := st
    exact ⟨oi, e, fun v z => by rw [dd] at z; cases z⟩
  keep := fun i h h' st k => st.at fun oi e => k it (by simp) oi e
  item := by
    intro X hP hw hK hc i pins s σ H E I hf st hg
    subst hP hw hK
    obtain ⟨hd, hi⟩ := hg
    obtain ⟨f0, f1, f2, f3, f4, f5⟩ := hf it (by simp)
    obtain ⟨hsz, vs, kv, hm⟩ := dict_at I hd T hod
    obtain ⟨⟨k, v⟩, hkv⟩ : ∃ p, kvs[i]? = some p := ⟨kvs[i], List.getElem?_eq_getElem hi⟩
    obtain ⟨u, hu, ru⟩ := kv_get kv hkv
    have hl : kvs.length = vs.length := Paired.length kv
    rw [hl] at st
    refine wpAny_pyNext_values_item st hm hu fun h' st' sb => ?_
    have I1 : Inv X pins σ H { s with heap := h' } := I.turned (t' := s.toks) (fun b ob hb e => (sb.2 b hb).trans e) f0 f1 f3 f4 f5
    obtain ⟨oi, e, c, dd⟩ := id st'
    refine ⟨u, rfl, go_of (s := { s with heap := h' }) e c dd (by decide) ⟨v, H, I1, ru, ⟨rfl, k, hkv⟩, ?_, fun b hb => (hf b hb).1⟩⟩
    show h'.IsValIter it a (i + 1) kvs.length _
    rw [hl]
    exact st'
  done := by
    intro X hP hw hK hc i pins s σ H E I hf st hg
    subst hP hw hK
    obtain ⟨hd, hi⟩ := hg
    obtain ⟨f0, f1, f2, f3, f4, f5⟩ := hf it (by simp)
    obtain ⟨hsz, vs, kv, hm⟩ := dict_at I hd T hod
    have hl : kvs.length = vs.length := Paired.length kv
    rw [hl] at st
    exact wpAny_pyNext_values_end (I.ok.hd hc) st hm (List.getElem?_eq_none (by omega)) fun h' eb => ⟨rfl, I.turned (t' := s.toks) (fun b ob hb e => eb b ob hb e) f0 f1 f3 f4 f5⟩
  self := fun A i s Q E st h => wpAny_pyIter_valiter st h
end
def iKK (td : TE) : TI := fun σ H R => td σ H fun x H1 => ∃ a ob kvs, x = .ref a ∧ H1 a = some (pin a ob) ∧ KDict ob a kvs ∧ R (ItK a ob kvs) H1
def iKV (td : TE) : TI := fun σ H R => td σ H fun x H1 => ∃ a ob kvs, x = .ref a ∧ H1 a = some (pin a ob) ∧ KDict ob a kvs ∧ R (ItV a ob kvs) H1
section
variable {X : Cx} {tg e : Expr} {td : TE} {apos cpos : Pos}
theorem pi_kkeys (he : PE X e td) : PI X tg e (iKK td) := by
  refine ⟨fun pins s σ H R I h => ?_⟩
  refine thn (he.run pins s σ H _ I h) fun u s1 ⟨x, H1, I1, rx, a, ob, kvs, ex, ha, T, q⟩ => ?_
  subst ex
  obtain rfl : u = Value.ref a := rx
  obtain ⟨es, ep, vs, h1, _⟩ := T.dat
  obtain ⟨hsz, vs, kv, hm⟩ := dict_at I1 ha T h1
  refine iter_keys T.sys (at_pin I1 ha) T.ex h1 (pi_one (tk := s1.toks) I1 _ (turn_kkeys _ T h1) ⟨_, Heap.get?_push_size _ rfl, rfl, ?_⟩ q)
  rw [hsz] <;> rfl
theorem pi_kvals (he : PE X e td) (hbase : attributeBase e "values" X.env (eval e X.env) = eval e X.env := by rfl) (hline : (apos.endLine == cpos.line) = true := by rfl) : PI X tg (.Call (.Attribute e "values" apos) [] [] cpos) (iKV td) := by
  refine ⟨fun pins s σ H R I h => ?_⟩
  refine wpAny_Call_method (T := "dict") (id := "dict.values") hbase rfl hline F.plainAttrs_dict F.slot_dict_values F.type_dict_values (thn (he.run pins s σ H _ I h) fun u s1 ⟨x, H1, I1, rx, a, ob, kvs, ex, ha, T, q⟩ => ?_)
  subst ex
  obtain rfl : u = Value.ref a := rx
  obtain ⟨es, ep, vs, h1, _⟩ := T.dat
  obtain ⟨hsz, vs, kv, hm⟩ := dict_at I1 ha T h1
  have hl : kvs.length = vs.length := Paired.length kv
  refine ⟨hm.dictOf.typeIs, hm.dictOf.mapOf.noDict, ?_⟩
  have I2 : Inv X pins σ H1 { s1 with heap := s1.heap.push { cls := .type "dict_values", data := .fields #[.ref a] } } := I1.kept (t' := s1.toks) fun b ob q => Heap.get?_push_of_some _ q
  have fin : wpAny (model X.prog X.w) X.A (pyIter (.ref s1.heap.objs.size)) (PIE X pins σ tg R) X.xe { s1 with heap := s1.heap.push { cls := .type "dict_values", data := .fields #[.ref a] } } := by
    refine wpAny_pyIter_values (d := a) (knd := mixKind X.prog X.w) ⟨_, Heap.get?_push_size _ rfl, rfl, rfl⟩ (hm.push _) (pi_one (tk := s1.toks) I2 _ (turn_kvals _ T h1) ⟨_, Heap.get?_push_size _ rfl, rfl, ?_⟩ q)
    rw [hl] <;> rfl
  show wpAny _ _ (callWith cpos (.builtin "dict.values") [.ref a] [] []) _ X.xe s1
  exact method_meetsIn F.slot_dict_values F.entry_dict_values rfl (PySem.evalArgs_none ⟨rfl, hm.dictOf.typeIs, F.args_dict_values_1 _, _, meets_dict_values (mixKind X.prog X.w) a T.sys, ⟨vs, hm.dictOf⟩, fin⟩)
end
end KD
/-! Mini0: a set of a list of whole numbers, over the layer. -/
namespace Mp
open PySem PySem.Spec PyProof.Rows L2
/-- a set that was just made -/
abbrev set0 (w : World) : PySem.Obj := { cls := .type "set", dict := none, data := .set #[] 0 (.fresh 0 0 (!w.params.followText "set-order")) }
section
variable {P : Program} {w : World} {A : Around} {E : Value → Shared → Prop} {s : Shared}
theorem set_of_list {l : Addr} {items : Array Value} (ns : List Int) {Q : Value → Shared → Prop} (hh : A.handled = none) (hl : s.heap.IsList l items) (hit : IntsAre items.toList ns) (hb : ns.length + 1 < scanBound)
    (fin : ∀ (h' : Heap) (tk c : Nat), SetR w h' s.heap.objs.size (fun j => decide (j ∈ ns)) c → c ≤ ns.length → (∀ b o, s.heap.get? b = some o → h'.get? b = some o) → Q (.ref s.heap.objs.size) { s with heap := h', toks := tk }) :
    wpAny (model P w) A (call (.type "set") [.ref l]) Q E s := by
  have sz : items.size = ns.length := by have q := IntsAre.length hit; rwa [Array.length_toList] at q
  obtain ⟨c, tl, hmro⟩ := F.called_set.mro
  have m1 := F.called_set.made
  have m2 := F.called_set.sub
  refine wpAny_call (codeAny_of_tree ?_)
  show wpAny _ _ (callAny (.type "set") _) _ _ _
  refine wpAny_pure ⟨Code.quiet_builtin _ (by decide +kernel), codeAny_builtin F.entry_type_call ?_⟩
  rw [Around.under_plain (weight_type_call_type "set" [.ref l] []) rfl]
  have m3 := F.called_set.notType
  have m4 := F.called_set.canCreate
  have m5 := F.typeCall_set_1 (.ref l)
  repeat (any_goals (first | assumption | wp_step))
  refine codeAny_mono (code_set_led1 (.ref l) (E := E) (Q₁ := fun obj s₁ => obj = .ref s.heap.objs.size ∧ s₁ = { s with heap := s.heap.push (set0 w) }) ⟨rfl, rfl⟩) fun r s₁ hr => ?_
  match r, hr with
  | .error e, hr => exact hr
  | .ok .next, hr => exact hr.elim
  | .ok .brk, hr => exact hr.elim
  | .ok .cont, hr => exact hr.elim
  | .ok (.ret obj), hr =>
    obtain ⟨rfl, rfl⟩ := hr
    have gS : (s.heap.push (set0 w)).get? s.heap.objs.size = some (set0 w) := Heap.get?_push_size _ rfl
    have tS : Shared.TypeIs { s with heap := s.heap.push (set0 w) } (.ref s.heap.objs.size) "set" := ⟨_, gS, rfl⟩
    have i1 := F.called_set.init.lookup
    have i2 := F.called_set.init.bind (.ref s.heap.objs.size)
    repeat (any_goals (first | assumption | wp_step))
    refine codeAny_mono (codeAny_call_builtin (R := wants (fun r s₂ => r = .none ∧ ∃ h' tk c, s₂ = { s with heap := h', toks := tk } ∧ SetR w h' s.heap.objs.size (fun j => decide (j ∈ ns)) c ∧ c ≤ ns.length ∧
        (∀ b o, s.heap.get? b = some o → h'.get? b = some o)) E) F.called_set.init.plain F.entry_set_init (check_set_init_1 tS ?_)) fun r₂ s₂ hr₂ => ?_
    · obtain ⟨⟨oc, od, odata, osl⟩, ho, hc, n, hd⟩ := hl
      simp only at hc hd
      subst hc hd
      have hl1 : (s.heap.push (set0 w)).IsList l items := ⟨_, Heap.get?_push_of_some _ ho, rfl, n, rfl⟩
      have ho' : (s.heap.push (set0 w)).get? l = some { cls := .type "list", dict := od, data := .seq items n, slots := osl } := Heap.get?_push_of_some _ ho
      have f1 := F.sub_list_set
      have f2 := F.sub_list_frozenset
      have f3 : (Value.type "list" == Value.type "dict") = false := by decide
      unfold Builtin.«set.__init__» noKeywords Builtin.Frozenset.updateFrom
      generalize hPI : pyIter = PI
      wp_walk
      subst hPI
      refine wpAny_pyIter_list hl1 (wpAny_bind (wpAny_runValue ?_))
      have lt : l < s.heap.objs.size := Heap.lt_size ho
      have hh3 : A.in1.in1.in1.handled = none := by simp [hh]
      have n1 : l ≠ (s.heap.push (set0 w)).objs.size := by rw [Heap.size_push]; exact Nat.ne_of_lt (Nat.lt_succ_of_lt lt)
      have n2 : s.heap.objs.size ∉ [(s.heap.push (set0 w)).objs.size, l] := by
        rw [Heap.size_push]
        simp only [List.mem_cons, List.not_mem_nil, or_false, not_or]
        exact ⟨Nat.ne_of_lt (Nat.lt_succ_self _), Nat.ne_of_gt lt⟩
      have vals : ∀ (i : Nat) (v : Value), items[i]? = some v → ∃ k t, ns[i]? = some k ∧ v = .int k t := fun i v hv => by
        have hi : i < ns.length := by rw [← sz]; exact (Array.getElem?_eq_some_iff.mp hv).1
        obtain ⟨t, e⟩ := PyProof.Rows.IntsAre.int_at hit i v (by rw [Array.getElem?_toList]; exact hv)
        exact ⟨ns[i], t, List.getElem?_eq_getElem hi, by rw [e, List.getD_eq_getElem?_getD, List.getElem?_eq_getElem hi] <;> rfl⟩
      refine set_update_ints ((Walks.list hh3 _ l n1 items).toS) s.heap.objs.size n2 ns sz hb vals (items.size - 0) 0 _ (by omega) (Nat.zero_le _) ⟨⟨_, Heap.get?_push_size _ rfl, rfl, rfl⟩, hl1.push _⟩ ⟨0, Nat.le_refl 0, setR_new_at (Heap.get?_push_of_some _ gS)⟩ fun s' c' mv hc' hS' => ?_
      obtain ⟨h', g2, d', tk', os'⟩ := s'
      have e1 : g2 = s.gens := mv.gens
      have e2 : d' = s.drawn := mv.drawn
      have e3 : os' = s.os := mv.os
      subst e1 e2 e3
      show wpAny _ _ _ _ _ _
      refine wpAny_pure ?_
      show wpAny _ _ (ret Value.none) _ _ _
      rw [sz] at hc'
      refine wpAny_pure ⟨rfl, h', tk', c', rfl, hS', hc', fun b o e => ?_⟩
      have hb0 : b < s.heap.objs.size := Heap.lt_size e
      have hb2 : b ≠ (s.heap.push (set0 w)).objs.size := by rw [Heap.size_push]; exact Nat.ne_of_lt (Nat.lt_succ_of_lt hb0)
      exact mv.heap b o (by simp only [List.mem_cons, List.not_mem_nil, or_false, not_or]; exact ⟨Nat.ne_of_lt hb0, hb2⟩) (Heap.get?_push_of_some _ (Heap.get?_push_of_some _ e))
    · match r₂, hr₂ with
      | .error e, hr₂ => exact hr₂
      | .ok .next, hr₂ => exact hr₂.elim
      | .ok .brk, hr₂ => exact hr₂.elim
      | .ok .cont, hr₂ => exact hr₂.elim
      | .ok (.ret r), hr₂ =>
        obtain ⟨rfl, h', tk, c', rfl, hS', hc', hk'⟩ := hr₂
        repeat (any_goals (first | assumption | wp_step))
        exact fin _ _ _ hS' hc' hk'
end
/-- set(xs), whole numbers -/
def rSetOfL (K : PySem.W.Frag) (w : World) : List V → Hp → VK → Prop := fun vs H Q => ∃ (a : Addr) (ns : List Int), vs = [V.ref a] ∧ SqL K H a (ns.map V.int) ∧ ns.length < 64 ∧ ∀ (p : Addr) (c : Nat), H p = none → c ≤ ns.length → Q (.ref p) (upd H p (SetO w p (fun j => decide (j ∈ ns)) c))
theorem cr_setL {X : Cx} (hc : X.calm = true) : CallR X (.type "set") (rSetOfL X.K X.w) := by
  intro pins s σ H vs us Q I r h
  obtain ⟨a, ns, rfl, hs, hl, q⟩ := h
  obtain rfl := r.ref1
  obtain ⟨its, rv, ht, _⟩ := I.list hs
  refine set_of_list ns (I.ok.hd hc) (show s.heap.IsList a its.toArray from ht.isList) (by simpa using rv.ints) (by unfold scanBound; omega) fun h' tk c hS hcn k => ?_
  exact ⟨.ref s.heap.objs.size, _, I.laid (t' := tk) (fun b o e => k b o e) (Nat.le_refl _) (setO_new hS), rfl, q _ c (I.hok.fresh (Nat.le_refl _)) hcn⟩
end Mp

set_option Elab.async false
set_option linter.all false
set_option maxRecDepth 100000
/-! Mini1: a small Python of plain values over a store: its syntax without positions, and what a term of it asks (a predicate of what is wanted behind). -/
namespace Mp
open PySem

/-- a value: tuples are plain, a list (a dict, an instance) is a place of the store -/
inductive Val where
  | non | bl (b : Bool) | int (i : Int) | str (x : Str) | tup (l : List Val) | obj (n : Nat)
  /-- the exception that is being handled: its place, its class -/
  | exn (a : Addr) (c : String)
instance : Inhabited Val := ⟨.non⟩
inductive Obj where
  /-- a list; a list that is only read (the script) -/
  | lst (l : List Val) | frz (l : List Val)
  | dic (kvs : List ((Int ⊕ Str) × Val))
  | ins (c : String) (fs : List (String × Val))
  /-- a dict whose keys are tuples of whole numbers; its object -/
  | dtu (kvs : List (List Int × Val)) (ob : PySem.Obj)
  /-- a dict whose keys are whole numbers; its object -/
  | dki (kvs : List ((Int ⊕ Str) × Val)) (ob : PySem.Obj)
abbrev Sto := List Obj
abbrev Env := List (Option Val)
structure Exc where
  cls : String
  /-- its two fields, many and most, if it has fields -/
  fs : List Int
abbrev QV := Val → Sto → Prop
abbrev QX := Exc → Sto → Prop

def getL (S : Sto) (n : Nat) : Option (List Val) := match S[n]? with
  | some (.lst l) => some l
  | _ => none
def rdL (S : Sto) (n : Nat) : Option (List Val) := match S[n]? with
  | some (.lst l) => some l
  | some (.frz l) => some l
  | _ => none
abbrev Ky := Int ⊕ Str
def getD (S : Sto) (n : Nat) : Option (List (Ky × Val)) := match S[n]? with
  | some (.dic l) => some l
  | _ => none

/-! ### dicts: the key of a value, pairs, a key's value, what is put -/
def keyV : Val → Option Ky
  | .int i => some (.inl i)
  | .str x => some (.inr x)
  | _ => none
def pairK : Val → Option (Ky × Val)
  | .tup [k, v] => (keyV k).map fun k => (k, v)
  | _ => none
def pairsK : List Val → Option (List (Ky × Val))
  | [] => some []
  | p :: l => match pairK p, pairsK l with
    | some q, some ps => some (q :: ps)
    | _, _ => none
def valD : List (Ky × Val) → Ky → Option Val
  | [], _ => none
  | p :: l, k => if p.1 = k then some p.2 else valD l k
def hasD (l : List (Ky × Val)) (k : Ky) : Bool := l.any fun p => decide (p.1 = k)
def putD (l : List (Ky × Val)) (k : Ky) (v : Val) : List (Ky × Val) := if hasD l k = true then l.map (fun p => if p.1 = k then (p.1, v) else p) else l ++ [(k, v)]
/-! ### dicts whose keys are tuples of whole numbers -/
def getT (S : Sto) (n : Nat) : Option (List (List Int × Val)) := match S[n]? with
  | some (.dtu l _) => some l
  | _ => none
def getI (S : Sto) (n : Nat) : Option (List (Ky × Val)) := match S[n]? with
  | some (.dki l _) => some l
  | _ => none
def keyL : Ky → Val
  | .inl i => .int i
  | .inr x => .str x
def intsO : List Val → Option (List Int)
  | [] => some []
  | .int i :: r => (intsO r).map (i :: ·)
  | _ => none
def keyT : Val → Option (List Int)
  | .tup l => intsO l
  | _ => none
def pairT : Val → Option (List Int × Val)
  | .tup [k, v] => (keyT k).map fun k => (k, v)
  | _ => none
def pairsT : List Val → Option (List (List Int × Val))
  | [] => some []
  | p :: l => match pairT p, pairsT l with
    | some q, some ps => some (q :: ps)
    | _, _ => none
def valT : List (List Int × Val) → List Int → Option Val
  | [], _ => none
  | p :: l, k => if p.1 = k then some p.2 else valT l k
def putT (l : List (List Int × Val)) (k : List Int) (v : Val) : List (List Int × Val) := if (valT l k).isSome = true then l.map (fun p => if p.1 = k then (p.1, v) else p) else l ++ [(k, v)]
def mergeT (acc l : List (List Int × Val)) : List (List Int × Val) := l.foldl (fun acc p => putT acc p.1 p.2) acc
def tupI (k : List Int) : Val := .tup (k.map .int)
def mergeD (acc l : List (Ky × Val)) : List (Ky × Val) := l.foldl (fun acc p => putD acc p.1 p.2) acc
/-- as data (what == and repr see); fuel: the depth -/
def toD : Nat → Sto → Val → Option PyData
  | 0, _, _ => none
  | n + 1, S, v => match v with
    | .non => some .none
    | .bl b => some (.bool b)
    | .int i => some (.int i)
    | .str x => if PyData.strOk x = true then some (.str x) else none
    | .tup l => (l.mapM (toD n S)).map .tuple
    | .obj k => match rdL S k with
      | some l => (l.mapM (toD n S)).map .list
      | none => none
    | .exn _ _ => none

/-- the same, dicts without entries too -/
def toR : Nat → Sto → Val → Option PyData
  | 0, _, _ => none
  | n + 1, S, v => match v with
    | .non => some .none
    | .bl b => some (.bool b)
    | .int i => some (.int i)
    | .str x => if PyData.strOk x = true then some (.str x) else none
    | .tup l => (l.mapM (toR n S)).map .tuple
    | .obj k => match rdL S k with
      | some l => (l.mapM (toR n S)).map .list
      | none => match getD S k with
        | some [] => some (.dict [])
        | _ => none
    | .exn _ _ => none

/-! ### flat values -/
def flat : Val → Bool
  | .non => true | .bl _ => true | .int _ => true | .str _ => true
  | _ => false
def feq : Val → Val → Bool
  | .non, .non => true
  | .bl a, .bl b => a == b
  | .bl a, .int b => (if a then 1 else 0) == b
  | .int a, .bl b => a == (if b then 1 else 0)
  | .int a, .int b => a == b
  | .str a, .str b => a == b
  | _, _ => false
def inb (x : Val) (l : List Val) : Bool := l.any fun y => feq y x

/-! ### the syntax -/
inductive Bop | add | sub | mul | fdiv | mod | pow
  deriving DecidableEq
inductive Cop | eq | ne | lt | le | gt | ge | is | isnot | isin | notin
  deriving DecidableEq
inductive Bi | len | abs | max | min | sum | all | tuple | list | repr | sorted | divmod | int | str
  deriving DecidableEq
inductive Met | append | extend | pop | index | count
  deriving DecidableEq
/-- where a value is put -/
inductive Tg | nm (i : Nat) | tup (is : List Nat)
mutual
inductive E
  | var (i : Nat) | con (v : Val) | glo (x : String) (v : Val)
  | bin (o : Bop) (a b : E) | neg (a : E) | not (a : E)
  | cmp (o : Cop) (a b : E) | cmp2 (o p : Cop) (a b c : E)
  | and (l : Es) | or (l : Es) | ite (c a b : E)
  | tup (l : Es) | lst (l : Es) | ix (a i : E) | sl (a : E) (lo hi st : Eo)
  | call (f : String) (l : Es) | bi (f : Bi) (l : Es) | met (m : Met) (o : E) (l : Es)
  | isi (e : E) (T : String)
  | lc (e : E) (tg : Tg) (it : I) (c : Eo) (own : List Nat)
  | rgt (a b : E) | rgl (a b : E)
  /-- a call that leaves the last parameters to their defaults -/
  | calld (f : String) (l : Es) (ds : List Val)
  /-- sorted(set(e)) -/
  | sset (e : E)
  /-- {} -/
  | dct
  /-- dict(pairs); d[key] -/
  | dfr (e : E) | dix (a i : E)
  /-- e == [] -/
  | eqn (e : E)
  /-- list(zip(a, b)); a not in b, b a tuple of data -/
  | zpl (a b : E) | ntin (a b : E)
  /-- dicts whose keys are tuples of whole numbers: {}, {k: v}, dict(pairs), d[k], d.get(k, x), d == {}, list(d.values()) -/
  | dtn | dt1 (k v : E) | dtf (e : E) | dtx (a i : E) | dtg (a k x : E) | dte (a : E) | dtv (a : E)
  /-- d != {}; k in d, k a tuple or None -/
  | dnt (a : E) | dti (a d : E)
  /-- dicts whose keys are whole numbers: dict(pairs), {i: j}, dict(d), d[k], k in d, k not in d, len(d) -/
  | dkf (e : E) | dkz (i j : Int) | dkc (a : E) | dkx (a i : E) | dkm (a d : E) | dkn (a d : E) | dkl (a : E)
  /-- e[::-1], e a tuple -/
  | rvs (e : E)
  /-- the words of a call: _law_said(lambda: e) -/
  | said (e : E)
  /-- the word of a call: _law_word(lambda: e) -/
  | word (e : E)
  /-- isinstance of the handled exception -/
  | isx (e : E) (T : String)
  /-- a field of the handled exception -/
  | fld (i : Nat) (x : String)
  /-- a def as a value; a call of what a name of the def holds -/
  | fnv (f : String) | callv (i : Nat) (l : Es)
  /-- texts: sep.join(e); e.upper(); e.count(s) -/
  | jn (sep : Str) (e : E) | upp (e : E) | scn (e : E) (s : Str)
  /-- dict(x), x a dict of the module with texts as keys; a in d, d a dict that is not pinned -/
  | dcg (x : String) (kvs : List (Str × Val)) | dim (a d : E)
  /-- repr(e), dicts without entries among it -/
  | rpr (e : E)
  /-- what is never reached -/
  | bad
inductive Es
  | nil | cons (e : E) (l : Es)
inductive Eo
  | no | so (e : E)
inductive I
  | dkeys (e : E) | ditems (e : E) | kkeys (e : E) | kvals (e : E) | val (e : E) | rng1 (a : E) | rng2 (a b : E) | rng3 (a b c : E) | enum (e : E) | zip (a b : E) | rev (e : E)
end
mutual
inductive St
  | exp (e : E) | asg (tg : Tg) (e : E) | par (is : List Nat) (l : Es) | put (o i e : E) | dput (o i e : E) | kput (o i e : E)
  | ret (e : E) | retN | ite (c : E) (a b : Ss) | whl (c : E) (b : Ss) | for (tg : Tg) (it : I) (b : Ss)
  | pass | brk | cont | raise (c : String) (l : Es)
inductive Ss
  | nil | cons (s : St) (l : Ss)
end
structure FDef where
  np : Nat
  nv : Nat
  body : Ss

/-! ### what the operations ask -/
def truV (S : Sto) : Val → Option Bool
  | .non => some false
  | .bl b => some b
  | .int i => some (i != 0)
  | .str x => if x.length ≤ 16777216 then some ((x.length : Int) != 0) else none
  | .tup l => some (!l.isEmpty)
  | .obj n => match S[n]? with
    | some (.lst l) => some (!l.isEmpty)
    | some (.frz l) => some (!l.isEmpty)
    | _ => none
  | .exn _ _ => none
def alloc (o : Obj) (S : Sto) (Q : QV) : Prop := Q (.obj S.length) (S ++ [o])
def mulOk (i j : Int) : Prop := (-18446744073709551616 < i ∧ i < 18446744073709551616) ∨ (-18446744073709551616 < j ∧ j < 18446744073709551616)
def binS (o : Bop) (a b : Val) (S : Sto) (Q : QV) : Prop := match o with
  | .add => match a, b with
    | .int i, .int j => Q (.int (i + j)) S
    | .str x, .str y => x.length + y.length ≤ 16777216 ∧ Q (.str (x ++ y)) S
    | .tup a, .tup b => a.length + b.length ≤ 16777216 ∧ Q (.tup (a ++ b)) S
    | .obj m, .obj n => ∃ a b, getL S m = some a ∧ getL S n = some b ∧ a.length + b.length ≤ 16777216 ∧ alloc (.lst (a ++ b)) S Q
    | _, _ => False
  | .sub => match a, b with
    | .int i, .int j => Q (.int (i - j)) S
    | _, _ => False
  | .mul => match a, b with
    | .int i, .int j => mulOk i j ∧ Q (.int (i * j)) S
    | .obj m, .int k => ∃ a, getL S m = some a ∧ (0 ≤ k ∧ k ≤ 1000 ∧ a.length ≤ 1000) ∧ alloc (.lst (List.replicate k.toNat a).flatten) S Q
    | .tup a, .int k => a ≠ [] ∧ 0 ≤ k ∧ k ≤ 1000 ∧ a.length ≤ 1000 ∧ Q (.tup (List.replicate k.toNat a).flatten) S
    | _, _ => False
  | .fdiv => match a, b with
    | .int i, .int j => (0 < j ∧ j < 10000000000000000000000000000000000000000) ∧ Q (.int (i / j)) S
    | _, _ => False
  | .mod => match a, b with
    | .int i, .int j => 0 < j ∧ Q (.int (i % j)) S
    | _, _ => False
  | .pow => match a, b with
    | .int i, .int j => (0 ≤ j ∧ j ≤ 1000 ∧ i.natAbs < 1000000) ∧ Q (.int (i ^ j.toNat)) S
    | _, _ => False
def eqS (a b : Val) (S : Sto) (Q : Bool → Prop) : Prop := match a, b with
  | .int i, .int j => Q (decide (i = j))
  | .bl i, .bl j => Q (decide (i = j))
  | .str i, .str j => Q (decide (i = j))
  | a, b => ∃ d e, toD 60 S a = some d ∧ toD 60 S b = some e ∧ Q (PyData.eqv d e)
def isNon : Val → Bool
  | .non => true
  | _ => false
def inS (a b : Val) (S : Sto) (Q : Bool → Prop) : Prop := match b with
  | .tup l => flat a = true ∧ l.all flat = true ∧ Q (inb a l)
  | .obj n => if flat a = true then ∃ l, rdL S n = some l ∧ flat a = true ∧ l.all flat = true ∧ Q (inb a l) else ∃ d ds, toD 60 S a = some d ∧ toD 60 S (.obj n) = some (.list ds) ∧ Q (ds.any fun z => PyData.eqv z d)
  | .str z => ∃ c, a = .str ⟨#[c]⟩ ∧ Q (decide (c ∈ z.cps.toList))
  | _ => False
def cmpI (f : Int → Int → Bool) (a b : Val) (S : Sto) (Q : QV) : Prop := match a, b with
  | .int i, .int j => Q (.bl (f i j)) S
  | _, _ => False
def isS (a b : Val) (Q : Bool → Prop) : Prop := match b with
  | .non => Q (isNon a)
  | .bl c => (match a with
    | .bl d => Q (decide (d = c))
    | _ => False)
  | _ => False
def cmpS (o : Cop) (a b : Val) (S : Sto) (Q : QV) : Prop := match o with
  | .eq => eqS a b S fun k => Q (.bl k) S
  | .ne => eqS a b S fun k => Q (.bl (!k)) S
  | .lt => cmpI (fun i j => decide (i < j)) a b S Q
  | .le => cmpI (fun i j => decide (i ≤ j)) a b S Q
  | .gt => cmpI (fun i j => decide (j < i)) a b S Q
  | .ge => cmpI (fun i j => decide (j ≤ i)) a b S Q
  | .is => isS a b fun k => Q (.bl k) S
  | .isnot => isS a b fun k => Q (.bl (!k)) S
  | .isin => inS a b S fun k => Q (.bl k) S
  | .notin => inS a b S fun k => Q (.bl (!k)) S
def ixS (a i : Val) (S : Sto) (Q : QV) : Prop := match a, i with
  | .tup l, .int i => ∃ v, L2.atI l i = some v ∧ Q v S
  | .obj n, .int i => ∃ l v, rdL S n = some l ∧ L2.atI l i = some v ∧ Q v S
  | .str x, .int i => ∃ c, x.length ≤ 16777216 ∧ L2.atI x.cps.toList i = some c ∧ Q (.str ⟨#[c]⟩) S
  | _, _ => False
/-- l[lo:hi] and l[lo:hi:st], st at least 1 -/
def cut {α : Type} (l : List α) (lo hi : Option Int) : List α := (l.drop (HT.sIx l.length 0 lo)).take (HT.sIx l.length l.length hi - HT.sIx l.length 0 lo)
def cutSt {α : Type} (l : List α) (lo hi : Option Int) (st : Nat) : List α :=
  (List.range ((HT.sIx l.length l.length hi - HT.sIx l.length 0 lo + (st - 1)) / st)).filterMap fun m => l[HT.sIx l.length 0 lo + m * st]?
def slS (a : Val) (lo hi st : Option Int) (S : Sto) (Q : QV) : Prop := match a, st with
  | .tup l, none => Q (.tup (cut l lo hi)) S
  | .tup l, some st => (0 < st ∧ st < 1000000) ∧ Q (.tup (cutSt l lo hi st.toNat)) S
  | .obj n, none => ∃ l, rdL S n = some l ∧ alloc (.lst (cut l lo hi)) S Q
  | .str z, none => z.length ≤ 16777216 ∧ Q (.str (L2.cutS z lo hi)) S
  | _, _ => False
def intsOf : List Val → Option (List Int)
  | [] => some []
  | .int i :: r => (intsOf r).map (i :: ·)
  | _ => none
def strsOf : List Val → Option (List Str)
  | [] => some []
  | .str x :: r => (strsOf r).map (x :: ·)
  | _ => none
def blsOf : List Val → Option (List Bool)
  | [] => some []
  | .bl i :: r => (blsOf r).map (i :: ·)
  | _ => none
def seqOf (S : Sto) : Val → Option (List Val)
  | .tup l => some l
  | .obj n => rdL S n
  | _ => none
def biS (f : Bi) (vs : List Val) (S : Sto) (Q : QV) : Prop := match f with
  | .len => match vs with
    | [.tup l] => Q (.int l.length) S
    | [.obj n] => ∃ l, rdL S n = some l ∧ Q (.int l.length) S
    | [.str x] => x.length ≤ 16777216 ∧ Q (.int x.length) S
    | _ => False
  | .abs => match vs with
    | [.int i] => Q (.int i.natAbs) S
    | _ => False
  | .max => match vs with
    | [.int i, .int j] => Q (.int (max i j)) S
    | [.obj n] => ∃ l ns, rdL S n = some l ∧ intsOf l = some ns ∧ ns ≠ [] ∧ ∀ m, m ∈ ns → (∀ y, y ∈ ns → y ≤ m) → Q (.int m) S
    | _ => False
  | .min => match vs with
    | [.int i, .int j] => Q (.int (min i j)) S
    | [.obj n] => (∃ l ns, rdL S n = some l ∧ intsOf l = some ns ∧ ns ≠ [] ∧ ∀ m, m ∈ ns → (∀ y, y ∈ ns → m ≤ y) → Q (.int m) S) ∨
      ∃ l d ds, rdL S n = some l ∧ l.mapM (toD 59 S) = some (d :: ds) ∧ PySem.W.AlikeAll (d :: ds) ∧ ∀ v, v ∈ l → toD 59 S v = some (PySem.W.minD d ds) → Q v S
    | _ => False
  | .sum => match vs with
    | [v] => ∃ l ns, seqOf S v = some l ∧ intsOf l = some ns ∧ Q (.int ns.sum) S
    | _ => False
  | .all => match vs with
    | [.obj n] => ∃ l bs, rdL S n = some l ∧ blsOf l = some bs ∧ Q (.bl (bs.all id)) S
    | _ => False
  | .tuple => match vs with
    | [.tup l] => Q (.tup l) S
    | [.obj n] => ∃ l, rdL S n = some l ∧ Q (.tup l) S
    | _ => False
  | .list => match vs with
    | [.tup l] => alloc (.lst l) S Q
    | [.str x] => x.cps.size ≤ 16777216 ∧ alloc (.lst (x.cps.toList.map fun c => .str ⟨#[c]⟩)) S Q
    | [.obj n] => ∃ l, rdL S n = some l ∧ alloc (.lst l) S Q
    | _ => False
  | .repr => match vs with
    | [v] => ∃ d, toD 60 S v = some d ∧ d.showable = true ∧ d.shown.length ≤ 16777216 ∧ Q (.str d.shown) S
    | _ => False
  | .divmod => match vs with
    | [.int i, .int j] => (0 < j ∧ j < 10000000000000000000000000000000000000000) ∧ Q (.tup [.int (i / j), .int (i % j)]) S
    | _ => False
  | .int => match vs with
    | [.int i] => Q (.int i) S
    | [.bl b] => Q (.int (if b then 1 else 0)) S
    | _ => False
  | .str => match vs with
    | [.int i] => i.natAbs.log2 < 1920 ∧ Q (.str (toString i)) S
    | _ => False
  | .sorted => match vs with
    | [.obj n] => (∃ l ns, rdL S n = some l ∧ intsOf l = some ns ∧ ∀ out : List Int, out.Perm ns → out.Pairwise (· ≤ ·) → alloc (.lst (out.map .int)) S Q) ∨
      ∃ l ds, rdL S n = some l ∧ l.mapM (toD 59 S) = some ds ∧ PySem.W.AllAlike ds ∧ PySem.W.Sortable ds ∧ alloc (.lst (((l.zip ds).mergeSort (PySem.W.dataLe false fun p : Val × PyData => p.2)).map (·.1))) S Q
    | _ => False
def metS (f : Met) (o : Val) (vs : List Val) (S : Sto) (Q : QV) : Prop := match f with
  | .append => match o, vs with
    | .obj n, [v] => ∃ l, getL S n = some l ∧ l.length < 16777216 ∧ Q .non (S.set n (.lst (l ++ [v])))
    | _, _ => False
  | .extend => match o, vs with
    | .obj n, [.obj k] => ∃ l r, getL S n = some l ∧ getL S k = some r ∧ l.length + r.length ≤ 16777216 ∧ Q .non (S.set n (.lst (l ++ r)))
    | _, _ => False
  | .pop => match o, vs with
    | .obj n, [] => ∃ l v, getL S n = some l ∧ l[l.length - 1]? = some v ∧ Q v (S.set n (.lst l.dropLast))
    | .obj n, [.int k] => k = 0 ∧ ∃ v l, getL S n = some (v :: l) ∧ Q v (S.set n (.lst l))
    | _, _ => False
  | .index => match o, vs with
    | .obj n, [.bl k] => ∃ l bs, rdL S n = some l ∧ blsOf l = some bs ∧ k ∈ bs ∧ Q (.int (bs.idxOf k : Nat)) S
    | _, _ => False
  | .count => match o, vs with
    | .obj n, [.int k] => ∃ l ns, rdL S n = some l ∧ intsOf l = some ns ∧ Q (.int (ns.count k : Nat)) S
    | .obj n, [.bl k] => ∃ l bs, rdL S n = some l ∧ blsOf l = some bs ∧ Q (.int (bs.count k : Nat)) S
    | _, _ => False
/-- the receiver's kind is right before the arguments are asked -/
def metT (f : Met) (o : Val) (S : Sto) : Prop := ∃ n l, o = .obj n ∧ rdL S n = some l
/-- the name of a value's class -/
def tyN (S : Sto) : Val → Option String
  | .non => some "NoneType" | .bl _ => some "bool" | .int _ => some "int" | .str _ => some "str" | .tup _ => some "tuple"
  | .obj n => (match S[n]? with
    | some (.lst _) => some "list" | some (.frz _) => some "list" | some (.dic _) => some "dict" | some (.dtu _ _) => some "dict" | some (.dki _ _) => some "dict"
    | _ => none)
  | .exn _ _ => none
def tyOk (T : String) : Bool := T == "int" || T == "bool" || T == "tuple" || T == "str" || T == "list" || T == "dict"
def isiS (T : String) (S : Sto) (v : Val) : Option Bool := if tyOk T = true then (tyN S v).map fun t => t == T || (t == "bool" && T == "int") else none
/-- o[i] = v -/
def putS (o i v : Val) (S : Sto) (Q : Sto → Prop) : Prop := match o, i with
  | .obj n, .int k => ∃ l j, getL S n = some l ∧ L2.ixN l.length k = some j ∧ Q (S.set n (.lst (l.set j v)))
  | _, _ => False
def rgOk (i : Int) : Prop := -1000000 ≤ i ∧ i ≤ 1000000
def rgV (i : Int) (n : Nat) : List Val := (List.range n).map fun k => .int (i + (k : Nat))
def rgN (i j c : Int) : Nat := (if c > 0 then (if i < j then (j - i - 1) / c + 1 else 0) else (if i > j then (i - j - 1) / (-c) + 1 else 0)).toNat
def rgVc (i c : Int) (n : Nat) : List Val := (List.range n).map fun k => .int (i + (k : Nat) * c)
def enumV : Nat → List Val → List Val
  | _, [] => []
  | n, v :: r => .tup [.int (n : Nat), v] :: enumV (n + 1) r
def zipV : List Val → List Val → List Val
  | v :: r, u :: s => .tup [v, u] :: zipV r s
  | _, _ => []
def chars (x : Str) : List Val := x.cps.toList.map fun c => .str ⟨#[c]⟩
def asgT : Tg → Val → Env → (Env → Prop) → Prop
  | .nm i, v, r, K => K (r.set i (some v))
  | .tup is, .tup vs, r, K => is.length = vs.length ∧ K ((is.zip vs).foldl (fun r p => r.set p.1 (some p.2)) r)
  | _, _, _, _ => False
def wipeE (r : Env) : List Nat → Env
  | [] => r
  | v :: vs => (wipeE r vs).set v none

/-- the word that tells a class of errors -/
def kindW (c : String) : Option String := [("NoRow", "row"), ("NoStep", "step"), ("NoSteps", "steps"), ("NoBound", "bound"), ("NoNumber", "number"), ("NotKept", "kept"), ("NoMarks", "marks"), ("NoSigns", "signs"), ("NotSo", "so"), ("NoPattern", "pattern"), ("NoTail", "tail"), ("NotEven", "even"), ("NoRun", "run"), ("NoBoard", "board"), ("NoHues", "hues"), ("NoText", "text"), ("NoLine", "line"), ("NoDeed", "deed")].lookup c
/-- the classes with fields -/
def kindF (c : String) : Option String := [("TooMany", "many"), ("TooFew", "few")].lookup c
def kindX (c : String) : Option String := (kindW c).or (kindF c)
/-- what is said of an error -/
def saidV (x : Exc) : Option Val := match x.fs with
  | [] => (kindW x.cls).map fun w => .tup [.str (Str.ofString w)]
  | [i, j] => (kindF x.cls).map fun w => .tup [.str (Str.ofString w), .int i, .int j]
  | _ => none
/-- the own classes: T is c, or one of those above -/
def isxB (c T : String) : Bool := c == T || T == "StepError" || T == "ValueError"

/-! ### loops -/
def forL (g : Sto → Prop) (step : Val → Env → Sto → (Env → Sto → Prop) → Prop) (K : Env → Sto → Prop) : List Val → Env → Sto → Prop
  | [], r, S => g S ∧ K r S
  | v :: l, r, S => g S ∧ step v r S (forL g step K l)
def lcL (g : Sto → Prop) (step : Val → Sto → (Option Val → Sto → Prop) → Prop) (K : List Val → Sto → Prop) : List Val → List Val → Sto → Prop
  | [], acc, S => g S ∧ K acc S
  | v :: l, acc, S => g S ∧ step v S fun o S' => lcL g step K l (match o with | some y => acc ++ [y] | none => acc) S'
def whlL (c : Env → Sto → (Bool → Sto → Prop) → Prop) (b : Env → Sto → (Env → Sto → Prop) → Prop) (K : Env → Sto → Prop) : Nat → Env → Sto → Prop
  | 0, _, _ => False
  | n + 1, r, S => c r S fun k S' => if k = true then b r S' (whlL c b K n) else K r S'

/-! ### the terms -/
abbrev Call := String → List Val → Sto → QV → QX → Prop
abbrev QI := List Val → (Sto → Prop) → Sto → Prop
def asI (v : Val) : Option Int := match v with
  | .int i => some i
  | _ => none
mutual
def ev (C : Call) : E → Env → Sto → QV → QX → Prop
  | .var i, r, S, Q, _ => ∃ v, r[i]? = some (some v) ∧ Q v S
  | .con v, _, S, Q, _ => Q v S
  | .glo _ v, _, S, Q, _ => Q v S
  | .bin o a b, r, S, Q, X => ev C a r S (fun x S1 => ev C b r S1 (fun y S2 => binS o x y S2 Q) X) X
  | .neg a, r, S, Q, X => ev C a r S (fun x S1 => ∃ i, x = .int i ∧ Q (.int (-i)) S1) X
  | .not a, r, S, Q, X => ev C a r S (fun x S1 => ∃ k, truV S1 x = some k ∧ Q (.bl (!k)) S1) X
  | .cmp o a b, r, S, Q, X => ev C a r S (fun x S1 => ev C b r S1 (fun y S2 => cmpS o x y S2 Q) X) X
  | .cmp2 o p a b c, r, S, Q, X => ev C a r S (fun x S1 => ev C b r S1 (fun y S2 => cmpS o x y S2 fun k S3 => ∃ t, k = .bl t ∧
      if t = true then ev C c r S3 (fun z S4 => cmpS p y z S4 Q) X else Q (.bl false) S3) X) X
  | .and l, r, S, Q, X => evA C l r S Q X
  | .or l, r, S, Q, X => evO C l r S Q X
  | .ite c a b, r, S, Q, X => ev C c r S (fun x S1 => ∃ k, truV S1 x = some k ∧ if k = true then ev C a r S1 Q X else ev C b r S1 Q X) X
  | .tup l, r, S, Q, X => evs C l r S (fun vs S1 => vs.length ≤ 16777216 ∧ Q (.tup vs) S1) X
  | .lst l, r, S, Q, X => evs C l r S (fun vs S1 => vs.length ≤ 16777216 ∧ alloc (.lst vs) S1 Q) X
  | .ix a i, r, S, Q, X => ev C a r S (fun x S1 => ev C i r S1 (fun y S2 => ixS x y S2 Q) X) X
  | .sl a lo hi st, r, S, Q, X => ev C a r S (fun x S1 => evo C lo r S1 (fun l S2 => evo C hi r S2 (fun h S3 => evo C st r S3 (fun t S4 => slS x l h t S4 Q) X) X) X) X
  | .call f l, r, S, Q, X => evs C l r S (fun vs S1 => C f vs S1 Q X) X
  | .bi f l, r, S, Q, X => evs C l r S (fun vs S1 => biS f vs S1 Q) X
  | .met m o l, r, S, Q, X => ev C o r S (fun x S1 => metT m x S1 ∧ evs C l r S1 (fun vs S2 => metS m x vs S2 Q) X) X
  | .isi e T, r, S, Q, X => ev C e r S (fun x S1 => ∃ k, isiS T S1 x = some k ∧ Q (.bl k) S1) X
  | .lc e tg it c own, r, S, Q, X => evI C it r S (fun l g S1 =>
      lcL g (fun v S2 K => asgT tg v (wipeE r own) fun r2 => evc C c r2 S2 (fun k S3 => if k = true then ev C e r2 S3 (fun y S4 => K (some y) S4) (fun _ _ => False) else K none S3) (fun _ _ => False))
        (fun acc S' => alloc (.lst acc) S' Q) l [] S1) X
  | .rgt a b, r, S, Q, X => ev C a r S (fun x S1 => ev C b r S1 (fun y S2 => ∃ i j, x = .int i ∧ y = .int j ∧ rgOk i ∧ rgOk j ∧ Q (.tup (rgV i (j - i).toNat)) S2) X) X
  | .rgl a b, r, S, Q, X => ev C a r S (fun x S1 => ev C b r S1 (fun y S2 => ∃ i j, x = .int i ∧ y = .int j ∧ rgOk i ∧ rgOk j ∧ alloc (.lst (rgV i (j - i).toNat)) S2 Q) X) X
  | .calld f l ds, r, S, Q, X => evs C l r S (fun vs S1 => C f (vs ++ ds) S1 Q X) X
  | .sset e, r, S, Q, X => ev C e r S (fun x S1 => ∃ n l ns, x = .obj n ∧ rdL S1 n = some l ∧ intsOf l = some ns ∧ ns.length < 64 ∧ ∀ out : List Int, out.Pairwise (· < ·) → (∀ k, k ∈ out ↔ k ∈ ns) → alloc (.lst (out.map .int)) S1 Q) X
  | .dct, _, S, Q, _ => alloc (.dic []) S Q
  | .dfr e, r, S, Q, X => ev C e r S (fun x S1 => ∃ n l ps, x = .obj n ∧ rdL S1 n = some l ∧ pairsK l = some ps ∧ alloc (.dic (mergeD [] ps)) S1 Q) X
  | .dix a i, r, S, Q, X => ev C a r S (fun x S1 => ev C i r S1 (fun y S2 => ∃ n l k v, x = .obj n ∧ getD S2 n = some l ∧ keyV y = some k ∧ valD l k = some v ∧ Q v S2) X) X
  | .rvs e, r, S, Q, X => ev C e r S (fun x S1 => ∃ l, x = .tup l ∧ Q (.tup l.reverse) S1) X
  | .eqn e, r, S, Q, X => ev C e r S (fun x S1 => ∃ n l, x = .obj n ∧ rdL S1 n = some l ∧ Q (.bl l.isEmpty) (S1 ++ [.lst []])) X
  | .zpl a b, r, S, Q, X => ev C a r S (fun x S1 => ev C b r S1 (fun y S2 => ∃ l k, seqOf S2 x = some l ∧ seqOf S2 y = some k ∧ alloc (.lst (zipV l k)) S2 Q) X) X
  | .ntin a b, r, S, Q, X => ev C a r S (fun x S1 => ev C b r S1 (fun y S2 => ∃ d ds, toD 60 S2 x = some d ∧ toD 60 S2 y = some (.tuple ds) ∧ Q (.bl (!(ds.any fun z => PyData.eqv z d))) S2) X) X
  | .dtn, _, S, Q, _ => ∀ ob, Q (.obj S.length) (S ++ [.dtu [] ob])
  | .dt1 k v, r, S, Q, X => ev C k r S (fun x S1 => ev C v r S1 (fun y S2 => ∃ ks, keyT x = some ks ∧ ∀ ob, Q (.obj S2.length) (S2 ++ [.dtu [(ks, y)] ob])) X) X
  | .dtf e, r, S, Q, X => ev C e r S (fun x S1 => ∃ n l ps, x = .obj n ∧ rdL S1 n = some l ∧ pairsT l = some ps ∧ ∀ ob, Q (.obj S1.length) (S1 ++ [.dtu (mergeT [] ps) ob])) X
  | .dtx a i, r, S, Q, X => ev C a r S (fun x S1 => ev C i r S1 (fun y S2 => ∃ n l k v, x = .obj n ∧ getT S2 n = some l ∧ keyT y = some k ∧ valT l k = some v ∧ Q v S2) X) X
  | .dtg a k z, r, S, Q, X => ev C a r S (fun x S1 => ∃ n l0, x = .obj n ∧ getT S1 n = some l0 ∧ ev C k r S1 (fun y S2 => ev C z r S2 (fun w S3 => ∃ l, getT S3 n = some l ∧ ((y = .non ∧ Q w S3) ∨ ∃ ks, keyT y = some ks ∧ Q ((valT l ks).getD w) S3)) X) X) X
  | .dte a, r, S, Q, X => ev C a r S (fun x S1 => ∃ n l, x = .obj n ∧ getT S1 n = some l ∧ Q (.bl l.isEmpty) S1) X
  | .dnt a, r, S, Q, X => ev C a r S (fun x S1 => ∃ n l, x = .obj n ∧ getT S1 n = some l ∧ Q (.bl (!l.isEmpty)) S1) X
  | .dti a d, r, S, Q, X => ev C a r S (fun y S1 => ev C d r S1 (fun x S2 => ∃ n l, x = .obj n ∧ getT S2 n = some l ∧ ((y = .non ∧ Q (.bl false) S2) ∨ ∃ ks, keyT y = some ks ∧ Q (.bl (valT l ks).isSome) S2)) X) X
  | .dtv a, r, S, Q, X => ev C a r S (fun x S1 => ∃ n l, x = .obj n ∧ getT S1 n = some l ∧ alloc (.lst (l.map (·.2))) S1 Q) X
  | .dkf e, r, S, Q, X => ev C e r S (fun x S1 => ∃ n l ps, x = .obj n ∧ rdL S1 n = some l ∧ pairsK l = some ps ∧ (∀ p ∈ mergeD [] ps, ∃ i : Int, p.1 = .inl i) ∧ ∀ ob, Q (.obj S1.length) (S1 ++ [.dki (mergeD [] ps) ob])) X
  | .dkz i j, _, S, Q, _ => ∀ ob, Q (.obj S.length) (S ++ [.dki [(.inl i, .int j)] ob])
  | .dkc a, r, S, Q, X => ev C a r S (fun x S1 => ∃ n l, x = .obj n ∧ getI S1 n = some l ∧ ∀ ob, Q (.obj S1.length) (S1 ++ [.dki l ob])) X
  | .dkx a i, r, S, Q, X => ev C a r S (fun x S1 => ev C i r S1 (fun y S2 => ∃ n l k v, x = .obj n ∧ getI S2 n = some l ∧ keyV y = some k ∧ valD l k = some v ∧ Q v S2) X) X
  | .dkm a d, r, S, Q, X => ev C a r S (fun y S1 => ev C d r S1 (fun x S2 => ∃ n l k, x = .obj n ∧ getI S2 n = some l ∧ keyV y = some k ∧ Q (.bl (valD l k).isSome) S2) X) X
  | .dkn a d, r, S, Q, X => ev C a r S (fun y S1 => ev C d r S1 (fun x S2 => ∃ n l k, x = .obj n ∧ getI S2 n = some l ∧ keyV y = some k ∧ Q (.bl (!(valD l k).isSome)) S2) X) X
  | .dkl a, r, S, Q, X => ev C a r S (fun x S1 => ∃ n l, x = .obj n ∧ getI S1 n = some l ∧ Q (.int l.length) S1) X
  | .said e, r, S, Q, X => ev C e r S (fun v S1 => Q (.tup [.str (Str.ofString "told"), v]) S1) (fun x S1 => ∃ w, saidV x = some w ∧ ∀ T, Q w (S1 ++ T))
  | .word e, r, S, Q, X => ev C e r S (fun _ S1 => Q (.str (Str.ofString "told")) S1) (fun x S1 => ∃ w, saidV x = some (.tup [w]) ∧ ∀ T, Q w (S1 ++ T))
  | .isx e T, r, S, Q, X => ev C e r S (fun x S1 => ∃ a c, x = .exn a c ∧ C "exn" [x] S1 (fun _ _ => True) X ∧ Q (.bl (isxB c T)) S1) X
  | .fld i x, r, S, Q, X => ∃ v, r[i]? = some (some v) ∧ C ("." ++ x) [v] S Q X
  | .fnv f, _, S, Q, X => C ("&" ++ f) [] S Q X
  | .callv i l, r, S, Q, X => ∃ a f, r[i]? = some (some (.exn a f)) ∧ C ("&" ++ f) [] S (fun v _ => v = .exn a f) (fun _ _ => False) ∧ evs C l r S (fun vs S1 => C f vs S1 Q X) X
  | .jn sep e, r, S, Q, X => ev C e r S (fun x S1 => ∃ l ys, seqOf S1 x = some l ∧ strsOf l = some ys ∧ (ys.map (·.length)).sum + ys.length * sep.length ≤ 16777216 ∧ Q (.str (Txt.join sep ys)) S1) X
  | .upp e, r, S, Q, X => ev C e r S (fun x S1 => ∃ z, x = .str z ∧ z.length ≤ 5592405 ∧ Q (.str (Txt.upper z)) S1) X
  | .scn e s, r, S, Q, X => ev C e r S (fun x S1 => ∃ z, x = .str z ∧ Q (.int (Txt.count z s)) S1) X
  | .dcg _ kvs, _, S, Q, _ => alloc (.dic (kvs.map fun p => ((.inr p.1 : Ky), p.2))) S Q
  | .dim a d, r, S, Q, X => ev C a r S (fun y S1 => ev C d r S1 (fun x S2 => ∃ n l k, x = .obj n ∧ getD S2 n = some l ∧ keyV y = some k ∧ Q (.bl (valD l k).isSome) S2) X) X
  | .rpr e, r, S, Q, X => ev C e r S (fun x S1 => ∃ d, toR 60 S1 x = some d ∧ d.showable = true ∧ d.shown.length ≤ 16777216 ∧ Q (.str d.shown) S1) X
  | .bad, _, _, _, _ => False
def evs (C : Call) : Es → Env → Sto → (List Val → Sto → Prop) → QX → Prop
  | .nil, _, S, Q, _ => Q [] S
  | .cons e l, r, S, Q, X => ev C e r S (fun x S1 => evs C l r S1 (fun vs S2 => Q (x :: vs) S2) X) X
def evA (C : Call) : Es → Env → Sto → QV → QX → Prop
  | .nil, _, _, _, _ => False
  | .cons e l, r, S, Q, X => ev C e r S (fun x S1 => match l with
    | .nil => Q x S1
    | .cons _ _ => ∃ k, truV S1 x = some k ∧ if k = true then evA C l r S1 Q X else Q x S1) X
def evO (C : Call) : Es → Env → Sto → QV → QX → Prop
  | .nil, _, _, _, _ => False
  | .cons e l, r, S, Q, X => ev C e r S (fun x S1 => match l with
    | .nil => Q x S1
    | .cons _ _ => ∃ k, truV S1 x = some k ∧ if k = true then Q x S1 else evO C l r S1 Q X) X
/-- a part of a slice -/
def evo (C : Call) : Eo → Env → Sto → (Option Int → Sto → Prop) → QX → Prop
  | .no, _, S, Q, _ => Q none S
  | .so e, r, S, Q, X => ev C e r S (fun x S1 => ∃ i, x = .int i ∧ Q (some i) S1) X
/-- a comprehension's test -/
def evc (C : Call) : Eo → Env → Sto → (Bool → Sto → Prop) → QX → Prop
  | .no, _, S, Q, _ => Q true S
  | .so e, r, S, Q, X => ev C e r S (fun x S1 => ∃ k, truV S1 x = some k ∧ Q k S1) X
def evI (C : Call) : I → Env → Sto → QI → QX → Prop
  | .val e, r, S, Q, X => ev C e r S (fun x S1 => match x with
      | .tup l => Q l (fun _ => True) S1
      | .obj n => ∃ l, rdL S1 n = some l ∧ Q l (fun S' => rdL S' n = some l) S1
      | .str z => z.cps.size ≤ 16777216 ∧ Q (chars z) (fun _ => True) S1
      | _ => False) X
  | .dkeys e, r, S, Q, X => ev C e r S (fun x S1 => ∃ n l ob, x = .obj n ∧ S1[n]? = some (.dtu l ob) ∧ Q (l.map fun p => tupI p.1) (fun S' => S'[n]? = some (.dtu l ob)) S1) X
  | .ditems e, r, S, Q, X => ev C e r S (fun x S1 => ∃ n l ob, x = .obj n ∧ S1[n]? = some (.dtu l ob) ∧ Q (l.map fun p => .tup [tupI p.1, p.2]) (fun S' => S'[n]? = some (.dtu l ob)) S1) X
  | .kkeys e, r, S, Q, X => ev C e r S (fun x S1 => ∃ n l ob, x = .obj n ∧ S1[n]? = some (.dki l ob) ∧ Q (l.map fun p => keyL p.1) (fun S' => S'[n]? = some (.dki l ob)) S1) X
  | .kvals e, r, S, Q, X => ev C e r S (fun x S1 => ∃ n l ob, x = .obj n ∧ S1[n]? = some (.dki l ob) ∧ Q (l.map fun p => p.2) (fun S' => S'[n]? = some (.dki l ob)) S1) X
  | .rng1 a, r, S, Q, X => ev C a r S (fun x S1 => ∃ i, x = .int i ∧ rgOk i ∧ Q (rgV 0 i.toNat) (fun _ => True) S1) X
  | .rng2 a b, r, S, Q, X => ev C a r S (fun x S1 => ev C b r S1 (fun y S2 => ∃ i j, x = .int i ∧ y = .int j ∧ rgOk i ∧ rgOk j ∧ Q (rgV i (j - i).toNat) (fun _ => True) S2) X) X
  | .rng3 a b c, r, S, Q, X => ev C a r S (fun x S1 => ev C b r S1 (fun y S2 => ev C c r S2 (fun z S3 => ∃ i j k, x = .int i ∧ y = .int j ∧ z = .int k ∧ rgOk i ∧ rgOk j ∧ k ≠ 0 ∧ rgOk k ∧ Q (rgVc i k (rgN i j k)) (fun _ => True) S3) X) X) X
  | .enum e, r, S, Q, X => ev C e r S (fun x S1 => match x with
      | .tup l => l.length ≤ 16777216 ∧ Q (enumV 0 l) (fun _ => True) S1
      | .obj n => ∃ l, rdL S1 n = some l ∧ l.length ≤ 16777216 ∧ Q (enumV 0 l) (fun S' => rdL S' n = some l) S1
      | _ => False) X
  | .zip a b, r, S, Q, X => ev C a r S (fun x S1 => ev C b r S1 (fun y S2 => match x, y with
      | .tup l, .tup k => l.length ≤ 16777216 ∧ Q (zipV l k) (fun _ => True) S2
      | .obj m, .obj n => ∃ l k, rdL S2 m = some l ∧ rdL S2 n = some k ∧ l.length ≤ 16777216 ∧ Q (zipV l k) (fun S' => rdL S' m = some l ∧ rdL S' n = some k) S2
      | .tup l, .obj n => ∃ k, rdL S2 n = some k ∧ l.length ≤ 16777216 ∧ Q (zipV l k) (fun S' => rdL S' n = some k) S2
      | .obj m, .tup k => ∃ l, rdL S2 m = some l ∧ l.length ≤ 16777216 ∧ Q (zipV l k) (fun S' => rdL S' m = some l) S2
      | _, _ => False) X) X
  | .rev e, r, S, Q, X => ev C e r S (fun x S1 => match x with
      | .tup l => l.length ≤ 16777216 ∧ Q l.reverse (fun _ => True) S1
      | .obj n => ∃ l, rdL S1 n = some l ∧ l.length ≤ 16777216 ∧ Q l.reverse (fun S' => rdL S' n = some l) S1
      | _ => False) X
end
/-- what is wanted behind a statement -/
structure Ko where
  nx : Env → Sto → Prop
  rt : QV
  bk : Env → Sto → Prop
  ct : Env → Sto → Prop
  ex : Exc → Env → Sto → Prop
def setAll : List Nat → List Val → Env → Env
  | i :: is, v :: vs, r => setAll is vs (r.set i (some v))
  | _, _, r => r
mutual
def exec (C : Call) : St → Env → Sto → Ko → Prop
  | .exp e, r, S, k => ev C e r S (fun _ S1 => k.nx r S1) (fun x S1 => k.ex x r S1)
  | .asg tg e, r, S, k => ev C e r S (fun v S1 => asgT tg v r fun r2 => k.nx r2 S1) (fun x S1 => k.ex x r S1)
  | .par is l, r, S, k => evs C l r S (fun vs S1 => is.length = vs.length ∧ k.nx (setAll is vs r) S1) (fun x S1 => k.ex x r S1)
  | .put o i e, r, S, k => ev C e r S (fun v S1 => ev C o r S1 (fun x S2 => ev C i r S2 (fun y S3 => putS x y v S3 fun S4 => k.nx r S4) (fun x S1 => k.ex x r S1)) (fun x S1 => k.ex x r S1)) (fun x S1 => k.ex x r S1)
  | .dput o i e, r, S, k => ev C e r S (fun v S1 => ev C o r S1 (fun x S2 => ev C i r S2 (fun y S3 => ∃ n l ks, x = .obj n ∧ getT S3 n = some l ∧ l.length < 16777216 ∧ keyT y = some ks ∧ ∀ ob, k.nx r (S3.set n (.dtu (putT l ks v) ob))) (fun x S1 => k.ex x r S1)) (fun x S1 => k.ex x r S1)) (fun x S1 => k.ex x r S1)
  | .kput o i e, r, S, k => ev C e r S (fun v S1 => ev C o r S1 (fun x S2 => ev C i r S2 (fun y S3 => ∃ n l kk, x = .obj n ∧ getI S3 n = some l ∧ l.length < 16777216 ∧ y = .int kk ∧ ∀ ob, k.nx r (S3.set n (.dki (putD l (.inl kk) v) ob))) (fun x S1 => k.ex x r S1)) (fun x S1 => k.ex x r S1)) (fun x S1 => k.ex x r S1)
  | .ret e, r, S, k => ev C e r S k.rt (fun x S1 => k.ex x r S1)
  | .retN, _, S, k => k.rt .non S
  | .ite c a b, r, S, k => ev C c r S (fun x S1 => ∃ t, truV S1 x = some t ∧ if t = true then execs C a r S1 k else execs C b r S1 k) (fun x S1 => k.ex x r S1)
  | .whl c b, r, S, k => ∃ n, whlL (fun r S Q => ev C c r S (fun x S1 => ∃ t, truV S1 x = some t ∧ Q t S1) (fun x S1 => k.ex x r S1)) (fun r S K => execs C b r S { k with nx := K, ct := K, bk := k.nx }) k.nx n r S
  | .for tg it b, r, S, k => evI C it r S (fun l g S1 => forL g (fun v r S K => asgT tg v r fun r2 => execs C b r2 S { k with nx := K, ct := K, bk := k.nx }) k.nx l r S1) (fun x S1 => k.ex x r S1)
  | .pass, r, S, k => k.nx r S
  | .brk, r, S, k => k.bk r S
  | .cont, r, S, k => k.ct r S
  | .raise c .nil, r, S, k => c ≠ "" ∧ k.ex ⟨c, []⟩ r S
  | .raise c (.cons a l), r, S, k => evs C (.cons a l) r S (fun vs S1 => ∃ i j, vs = [.int i, .int j] ∧ k.ex ⟨c, [i, j]⟩ r S1) (fun x S1 => k.ex x r S1)
def execs (C : Call) : Ss → Env → Sto → Ko → Prop
  | .nil, r, S, k => k.nx r S
  | .cons s l, r, S, k => exec C s r S { k with nx := fun r1 S1 => execs C l r1 S1 k }
end
def startE (d : FDef) (vs : List Val) : Env := vs.map some ++ List.replicate (d.nv - vs.length) none
def runF (C : Call) (d : FDef) (vs : List Val) (S : Sto) (Q : QV) (X : QX) : Prop :=
  vs.length = d.np ∧ execs C d.body (startE d vs) S { nx := fun _ S1 => Q .non S1, rt := Q, bk := fun _ _ => False, ct := fun _ _ => False, ex := fun x _ S1 => X x S1 }
abbrev Table := String → Option FDef
def callN (G : Table) : Nat → Call
  | 0 => fun _ _ _ _ _ => False
  | n + 1 => fun f vs S Q X => ∃ d, G f = some d ∧ runF (callN G n) d vs S Q X
/-- the def f as a value: it stands at a -/
def fvD (a : Addr) (f : String) : FDef := ⟨0, 0, .cons (.ret (.con (.exn a f))) .nil⟩
/-- the table with the defs that are used as values -/
def withF (G : Table) (fvs : List String) (A : String → Addr) : Table := fun f => match fvs.find? (fun g => f == "&" ++ g) with
  | some g => some (fvD (A g) g)
  | none => G f
theorem withF_nil (G : Table) (A : String → Addr) : withF G [] A = G := rfl
theorem withF_fn {G : Table} {fvs : List String} {A : String → Addr} {f : String} (h : fvs.all (fun g => !(f == "&" ++ g)) = true) : withF G fvs A f = G f := by
  unfold withF
  have e : fvs.find? (fun g => f == "&" ++ g) = none := by
    rw [List.find?_eq_none]
    intro g hg
    have := List.all_eq_true.mp h g hg
    simpa using this
  rw [e]
theorem lookup_amp {l : List (String × FDef)} (h : l.all (fun p => decide (p.1.toList.head? ≠ some '&')) = true) (f : String) : l.lookup ("&" ++ f) = none := by
  rw [List.lookup_eq_none_iff]
  intro p hp
  have h1 := of_decide_eq_true (List.all_eq_true.mp h p hp)
  simp only [bne_iff_ne, ne_eq, beq_eq_false_iff_ne]
  intro e
  refine h1 ?_
  rw [← e, String.toList_append]
  rfl
theorem callN_fv {G : Table} {fvs : List String} {A : String → Addr} (h : ∀ f, G ("&" ++ f) = none) : ∀ (n : Nat) (f : String) (S : Sto) (Q : QV) (X : QX), callN (withF G fvs A) n ("&" ++ f) [] S Q X → f ∈ fvs ∧ Q (.exn (A f) f) S
  | 0, _, _, _, _, h0 => h0.elim
  | n + 1, f, S, Q, X, ⟨d, e, h1, h2⟩ => by
    unfold withF at e
    split at e
    · rename_i g hg
      have hm := List.mem_of_find?_eq_some hg
      have he := List.find?_some hg
      have hfg : f = g := by
        have he : "&" ++ f = "&" ++ g := by simpa using he
        have := congrArg String.toList he
        simp only [String.toList_append] at this
        exact String.ext (List.append_cancel_left this)
      subst hfg
      cases e
      exact ⟨hm, h2⟩
    · rw [h f] at e
      cases e
end Mp

set_option Elab.async false
set_option linter.all false
set_option maxRecDepth 100000
set_option autoImplicit false
/-! Mini2: how values and stores of Mini1 stand in the model's heap. -/
namespace Mp
open PySem PySem.Spec PyProof.Rows L2

mutual
def RV (K : PySem.W.Frag) (H : Hp) (m : List Addr) : Val → V → Prop
  | .non, x => x = .non
  | .bl b, x => x = .bl b
  | .int i, x => x = .int i
  | .str z, x => x = .str z
  | .tup l, x => ∃ a xs, x = .ref a ∧ SqT K H a xs ∧ RVs K H m l xs
  | .obj n, x => ∃ a, m[n]? = some a ∧ x = .ref a
  | .exn a _, x => x = .ref a
def RVs (K : PySem.W.Frag) (H : Hp) (m : List Addr) : List Val → List V → Prop
  | [], xs => xs = []
  | v :: l, xs => ∃ x r, xs = x :: r ∧ RV K H m v x ∧ RVs K H m l r
end
/-- the static part: what the top has written, the tables of code objects, the module's names -/
structure Zt where
  K : PySem.W.Frag
  T : List (Addr × Str)
  mg : Str → Option Value
  /-- the classes that are raised; those with fields; the dict of the handled exception -/
  xs : List String
  xi : List String
  xd : List (Addr × List (Str × V))
def TabsX (Z : Zt) (H : Hp) : Prop := LamX.Tabs Z.T H ∧ ∀ p ∈ Z.xd, H p.1 = some (.xd p.2)
/-- what the places of a dict hold -/
def DR (K : PySem.W.Frag) (H : Hp) (m : List Addr) : List (Ky × Val) → List (L2.Key × V) → Prop
  | [], ks => ks = []
  | p :: l, ks => ∃ q r, ks = q :: r ∧ q.1 = p.1 ∧ RV K H m p.2 q.2 ∧ DR K H m l r
theorem DR.to {K : PySem.W.Frag} {H H' : Hp} {m m' : List Addr} (k : ∀ v x, RV K H m v x → RV K H' m' v x) : ∀ {l : List (Ky × Val)} {ks : List (L2.Key × V)}, DR K H m l ks → DR K H' m' l ks
  | [], _, h => h
  | _ :: _, _, ⟨q, r, e, h1, h2, h3⟩ => ⟨q, r, e, h1, k _ _ h2, DR.to k h3⟩
def TR (K : PySem.W.Frag) (H : Hp) (m : List Addr) : List (List Int × Val) → List TD.Row → Prop
  | [], xs => xs = []
  | p :: l, xs => ∃ q r, xs = q :: r ∧ q.1 = p.1 ∧ (∃ x, RV K H m p.2 x ∧ RelV x q.2.2) ∧ TR K H m l r
theorem TR.to {K : PySem.W.Frag} {H H' : Hp} {m m' : List Addr} (k : ∀ v x, RV K H m v x → RV K H' m' v x) : ∀ {l : List (List Int × Val)} {xs : List TD.Row}, TR K H m l xs → TR K H' m' l xs
  | [], _, h => h
  | _ :: _, _, ⟨q, r, e, h1, ⟨x, h2, h3⟩, h4⟩ => ⟨q, r, e, h1, ⟨x, k _ _ h2, h3⟩, TR.to k h4⟩
def OR (K : PySem.W.Frag) (H : Hp) (m : List Addr) : Obj → Addr → Prop
  | .lst l, a => ∃ xs, H a = some (.lst xs) ∧ RVs K H m l xs
  | .frz l, a => ∃ o xs, H a = some (.frz o (.lst xs)) ∧ RVs K H m l xs
  | .dic l, a => ∃ ks, H a = some (.dK ks) ∧ DR K H m l ks
  | .dtu l ob, a => ∃ xs, H a = some (TD.pin a ob) ∧ TD.TDict K H ob a xs ∧ TR K H m l xs
  | .dki l ob, a => ∃ ks, H a = some (TD.pin a ob) ∧ KD.KDict ob a ks ∧ DR K H m l ks
  | _, _ => False
structure Rep (Z : Zt) (m : List Addr) (S : Sto) (H : Hp) : Prop where
  len : m.length = S.length
  nd : m.Nodup
  ob : ∀ (n : Nat) (o : Obj) (a : Addr), S[n]? = some o → m[n]? = some a → OR Z.K H m o a
  tabs : TabsX Z H
structure Grow (m : List Addr) (H : Hp) (m' : List Addr) (H' : Hp) : Prop where
  ext : ∃ n, m' = m ++ n ∧ ∀ a ∈ n, ∀ o, H a = some o → ∃ ps, o = .tbl ps
  keep : ∀ a o, H a = some o → a ∉ m → (∀ ps, o ≠ .tbl ps) → H' a = some o
  dom : ∀ a o, H a = some o → (∀ ps, o ≠ .tbl ps) → ∃ o', H' a = some o' ∧ ∀ ps, o' ≠ .tbl ps
theorem Grow.refl {m : List Addr} {H : Hp} : Grow m H m H := ⟨⟨[], by simp, by simp⟩, fun _ _ h _ _ => h, fun _ o h n => ⟨o, h, n⟩⟩
theorem Grow.trans {m m1 m2 : List Addr} {H H1 H2 : Hp} (a : Grow m H m1 H1) (b : Grow m1 H1 m2 H2) : Grow m H m2 H2 := by
  obtain ⟨n1, e1, f1⟩ := a.ext
  obtain ⟨n2, e2, f2⟩ := b.ext
  refine ⟨⟨n1 ++ n2, by rw [e2, e1, List.append_assoc], fun x hx o ho => ?_⟩, fun x o h hm ht => ?_, fun x o h n => let ⟨o', h', n'⟩ := a.dom x o h n; b.dom x o' h' n'⟩
  · rcases List.mem_append.mp hx with h | h
    · exact f1 x h o ho
    · by_cases ht : ∃ ps, o = .tbl ps
      · exact ht
      · obtain ⟨o', h', n'⟩ := a.dom x o ho fun ps z => ht ⟨ps, z⟩
        obtain ⟨ps, e⟩ := f2 x h o' h'
        exact absurd e (n' ps)
  · refine b.keep x o (a.keep x o h hm ht) (fun hx => ?_) ht
    rw [e1] at hx
    rcases List.mem_append.mp hx with z | z
    · exact hm z
    · obtain ⟨ps, e⟩ := f1 x z o h
      exact absurd e (ht ps)
theorem Grow.get {m m' : List Addr} {H H' : Hp} (g : Grow m H m' H') {n : Nat} {a : Addr} (h : m[n]? = some a) : m'[n]? = some a := by
  obtain ⟨k, e, _⟩ := g.ext
  rw [e, List.getElem?_append_left (List.getElem?_eq_some_iff.mp h).1]
  exact h
/-- a tracked place of the store holds a list -/
theorem Rep.at {Z : Zt} {m : List Addr} {S : Sto} {H : Hp} (R : Rep Z m S H) {a : Addr} (h : a ∈ m) : (∃ xs, H a = some (.lst xs)) ∨ (∃ o xs, H a = some (.frz o (.lst xs))) ∨ (∃ ks, H a = some (.dK ks)) ∨ ∃ φ, H a = some (.ext φ) := by
  obtain ⟨n, hn, e⟩ := List.mem_iff_getElem.mp h
  have hs : n < S.length := by rw [← R.len]; exact hn
  have q := R.ob n S[n] a (List.getElem?_eq_getElem hs) (by rw [← e]; exact List.getElem?_eq_getElem hn)
  cases ho : S[n] with
  | lst l => rw [ho] at q; obtain ⟨xs, h1, _⟩ := q; exact .inl ⟨xs, h1⟩
  | frz l => rw [ho] at q; obtain ⟨o, xs, h1, _⟩ := q; exact .inr (.inl ⟨o, xs, h1⟩)
  | dic l => rw [ho] at q; obtain ⟨ks, h1, _⟩ := q; exact .inr (.inr (.inl ⟨ks, h1⟩))
  | dtu l ob => rw [ho] at q; obtain ⟨xs, h1, h2⟩ := q; exact .inr (.inr (.inr ⟨_, h1⟩))
  | dki l ob => rw [ho] at q; obtain ⟨ks, h1, h2⟩ := q; exact .inr (.inr (.inr ⟨_, h1⟩))
  | ins c l => rw [ho] at q; exact q.elim
theorem Rep.tup_keep {Z : Zt} {m m' : List Addr} {S : Sto} {H H' : Hp} (R : Rep Z m S H) (g : Grow m H m' H') {a : Addr} {xs : List V} (h : SqT Z.K H a xs) : SqT Z.K H' a xs := by
  rcases h with (h | ⟨o, h⟩) | h
  · refine .inl (.inl (g.keep a _ h (fun hm => ?_) (fun ps z => by cases z)))
    rcases R.at hm with ⟨ys, e⟩ | ⟨o, ys, e⟩ | ⟨ks, e⟩ | ⟨ks, e⟩ <;> rw [h] at e <;> cases e
  · refine .inl (.inr ⟨o, g.keep a _ h (fun hm => ?_) (fun ps z => by cases z)⟩)
    rcases R.at hm with ⟨ys, e⟩ | ⟨o, ys, e⟩ | ⟨ks, e⟩ | ⟨ks, e⟩ <;> rw [h] at e <;> cases e
  · exact .inr h
mutual
theorem RV.grow {Z : Zt} {m m' : List Addr} {S : Sto} {H H' : Hp} (R : Rep Z m S H) (g : Grow m H m' H') : ∀ (v : Val) (x : V), RV Z.K H m v x → RV Z.K H' m' v x
  | .non, _, h => h
  | .bl _, _, h => h
  | .int _, _, h => h
  | .str _, _, h => h
  | .tup l, x, h => by
    simp only [RV] at h ⊢
    obtain ⟨a, xs, e, hs, hr⟩ := h
    exact ⟨a, xs, e, R.tup_keep g hs, RVs.grow R g l xs hr⟩
  | .obj n, x, h => by
    simp only [RV] at h ⊢
    obtain ⟨a, e, ex⟩ := h
    exact ⟨a, g.get e, ex⟩
  | .exn _ _, _, h => h
theorem RVs.grow {Z : Zt} {m m' : List Addr} {S : Sto} {H H' : Hp} (R : Rep Z m S H) (g : Grow m H m' H') : ∀ (l : List Val) (xs : List V), RVs Z.K H m l xs → RVs Z.K H' m' l xs
  | [], _, h => h
  | v :: l, xs, h => by
    simp only [RVs] at h ⊢
    obtain ⟨x, r, e, h1, h2⟩ := h
    exact ⟨x, r, e, RV.grow R g v x h1, RVs.grow R g l r h2⟩
end
/-! ### lists of values -/
theorem RVs.len {K : PySem.W.Frag} {H : Hp} {m : List Addr} : ∀ {l : List Val} {xs : List V}, RVs K H m l xs → l.length = xs.length
  | [], xs, h => by simp only [RVs] at h; rw [h]; rfl
  | v :: l, xs, h => by
    simp only [RVs] at h
    obtain ⟨x, r, e, h1, h2⟩ := h
    rw [e, List.length_cons, List.length_cons, RVs.len h2]
theorem RVs.nil {K : PySem.W.Frag} {H : Hp} {m : List Addr} : RVs K H m [] [] := by simp only [RVs]
theorem RVs.cons {K : PySem.W.Frag} {H : Hp} {m : List Addr} {v : Val} {x : V} {l : List Val} {xs : List V} (a : RV K H m v x) (b : RVs K H m l xs) : RVs K H m (v :: l) (x :: xs) := by
  simp only [RVs]
  exact ⟨x, xs, rfl, a, b⟩
theorem RVs.app {K : PySem.W.Frag} {H : Hp} {m : List Addr} : ∀ {l k : List Val} {xs ys : List V}, RVs K H m l xs → RVs K H m k ys → RVs K H m (l ++ k) (xs ++ ys)
  | [], k, xs, ys, h, q => by simp only [RVs] at h; rw [h]; exact q
  | v :: l, k, xs, ys, h, q => by
    simp only [RVs] at h
    obtain ⟨x, r, e, h1, h2⟩ := h
    rw [e]
    exact RVs.cons h1 (RVs.app h2 q)
theorem RVs.get {K : PySem.W.Frag} {H : Hp} {m : List Addr} : ∀ {l : List Val} {xs : List V} {i : Nat} {v : Val}, RVs K H m l xs → l[i]? = some v → ∃ x, xs[i]? = some x ∧ RV K H m v x
  | [], _, _, _, _, e => by simp at e
  | w :: l, xs, 0, v, h, e => by
    simp only [RVs] at h
    obtain ⟨x, r, rfl, h1, h2⟩ := h
    simp at e
    subst e
    exact ⟨x, rfl, h1⟩
  | w :: l, xs, i + 1, v, h, e => by
    simp only [RVs] at h
    obtain ⟨x, r, rfl, h1, h2⟩ := h
    obtain ⟨y, e1, e2⟩ := RVs.get (i := i) h2 (by simpa using e)
    exact ⟨y, by simpa using e1, e2⟩
theorem RVs.getV {K : PySem.W.Frag} {H : Hp} {m : List Addr} : ∀ {l : List Val} {xs : List V} {i : Nat} {x : V}, RVs K H m l xs → xs[i]? = some x → ∃ v, l[i]? = some v ∧ RV K H m v x := fun {l xs i x} h e => by
  have hi : i < l.length := by rw [h.len]; exact (List.getElem?_eq_some_iff.mp e).1
  obtain ⟨y, e1, e2⟩ := h.get (List.getElem?_eq_getElem hi)
  rw [e] at e1
  cases e1
  exact ⟨_, List.getElem?_eq_getElem hi, e2⟩
theorem RVs.drop {K : PySem.W.Frag} {H : Hp} {m : List Addr} : ∀ {l : List Val} {xs : List V} (n : Nat), RVs K H m l xs → RVs K H m (l.drop n) (xs.drop n)
  | _, _, 0, h => h
  | [], xs, n + 1, h => by simp only [RVs] at h; rw [h]; exact RVs.nil
  | v :: l, xs, n + 1, h => by
    simp only [RVs] at h
    obtain ⟨x, r, rfl, h1, h2⟩ := h
    exact RVs.drop n h2
theorem RVs.take {K : PySem.W.Frag} {H : Hp} {m : List Addr} : ∀ {l : List Val} {xs : List V} (n : Nat), RVs K H m l xs → RVs K H m (l.take n) (xs.take n)
  | _, _, 0, h => by simp only [List.take_zero]; exact RVs.nil
  | [], xs, n + 1, h => by simp only [RVs] at h; rw [h]; exact RVs.nil
  | v :: l, xs, n + 1, h => by
    simp only [RVs] at h
    obtain ⟨x, r, rfl, h1, h2⟩ := h
    exact RVs.cons h1 (RVs.take n h2)
theorem RVs.set {K : PySem.W.Frag} {H : Hp} {m : List Addr} {v : Val} {x : V} (r : RV K H m v x) : ∀ {l : List Val} {xs : List V} (n : Nat), RVs K H m l xs → RVs K H m (l.set n v) (xs.set n x)
  | [], xs, n, h => by simp only [RVs] at h; rw [h]; exact RVs.nil
  | w :: l, xs, 0, h => by
    simp only [RVs] at h
    obtain ⟨y, r', rfl, h1, h2⟩ := h
    exact RVs.cons r h2
  | w :: l, xs, n + 1, h => by
    simp only [RVs] at h
    obtain ⟨y, r', rfl, h1, h2⟩ := h
    exact RVs.cons h1 (RVs.set r n h2)
theorem RVs.rev {K : PySem.W.Frag} {H : Hp} {m : List Addr} : ∀ {l : List Val} {xs : List V}, RVs K H m l xs → RVs K H m l.reverse xs.reverse
  | [], xs, h => by simp only [RVs] at h; rw [h]; exact RVs.nil
  | v :: l, xs, h => by
    simp only [RVs] at h
    obtain ⟨x, r, rfl, h1, h2⟩ := h
    rw [List.reverse_cons, List.reverse_cons]
    exact RVs.app (RVs.rev h2) (RVs.cons h1 RVs.nil)
theorem RVs.rep {K : PySem.W.Frag} {H : Hp} {m : List Addr} {l : List Val} {xs : List V} (h : RVs K H m l xs) : ∀ k : Nat, RVs K H m (List.replicate k l).flatten (List.replicate k xs).flatten
  | 0 => RVs.nil
  | k + 1 => by
    rw [List.replicate_succ, List.replicate_succ, List.flatten_cons, List.flatten_cons]
    exact RVs.app h (RVs.rep h k)
theorem RVs.filt {K : PySem.W.Frag} {H : Hp} {m : List Addr} {l : List Val} {xs : List V} (h : RVs K H m l xs) (f : Nat → Nat) : ∀ ks : List Nat, RVs K H m (ks.filterMap fun k => l[f k]?) (ks.filterMap fun k => xs[f k]?)
  | [] => RVs.nil
  | k :: ks => by
    rw [List.filterMap_cons, List.filterMap_cons]
    cases q : l[f k]? with
    | none =>
      have z : xs[f k]? = none := by
        rw [List.getElem?_eq_none_iff] at q ⊢
        rw [← h.len]
        exact q
      rw [z]
      exact RVs.filt h f ks
    | some v =>
      obtain ⟨x, e, r⟩ := h.get q
      rw [e]
      exact RVs.cons r (RVs.filt h f ks)
theorem RVs.ints {K : PySem.W.Frag} {H : Hp} {m : List Addr} : ∀ {l : List Val} {xs : List V} {ns : List Int}, RVs K H m l xs → intsOf l = some ns → xs = ns.map V.int
  | [], xs, ns, h, e => by simp only [RVs] at h; simp [intsOf] at e; rw [h, e]; rfl
  | v :: l, xs, ns, h, e => by
    simp only [RVs] at h
    obtain ⟨x, r, rfl, h1, h2⟩ := h
    cases v with
    | int i =>
      simp only [intsOf, Option.map_eq_some_iff] at e
      obtain ⟨k, e1, rfl⟩ := e
      simp only [RV] at h1
      rw [h1, RVs.ints h2 e1]
      rfl
    | _ => simp [intsOf] at e
theorem RVs.bls {K : PySem.W.Frag} {H : Hp} {m : List Addr} : ∀ {l : List Val} {xs : List V} {ns : List Bool}, RVs K H m l xs → blsOf l = some ns → xs = ns.map V.bl
  | [], xs, ns, h, e => by simp only [RVs] at h; simp [blsOf] at e; rw [h, e]; rfl
  | v :: l, xs, ns, h, e => by
    simp only [RVs] at h
    obtain ⟨x, r, rfl, h1, h2⟩ := h
    cases v with
    | bl i =>
      simp only [blsOf, Option.map_eq_some_iff] at e
      obtain ⟨k, e1, rfl⟩ := e
      simp only [RV] at h1
      rw [h1, RVs.bls h2 e1]
      rfl
    | _ => simp [blsOf] at e
theorem RVs.of_ints {K : PySem.W.Frag} {H : Hp} {m : List Addr} : ∀ (ns : List Int), RVs K H m (ns.map Val.int) (ns.map V.int)
  | [] => RVs.nil
  | n :: ns => RVs.cons (by simp only [RV]) (RVs.of_ints ns)
/-! ### lists read and written -/
theorem Rep.rd {Z : Zt} {m : List Addr} {S : Sto} {H : Hp} (R : Rep Z m S H) {n : Nat} {l : List Val} {a : Addr} (h : rdL S n = some l) (ha : m[n]? = some a) : ∃ xs, SqL Z.K H a xs ∧ RVs Z.K H m l xs := by
  unfold rdL at h
  split at h
  · rename_i k e
    cases h
    obtain ⟨xs, h1, h2⟩ := R.ob n _ a e ha
    exact ⟨xs, .inl (.inl h1), h2⟩
  · rename_i k e
    cases h
    obtain ⟨o, xs, h1, h2⟩ := R.ob n _ a e ha
    exact ⟨xs, .inl (.inr ⟨o, h1⟩), h2⟩
  · cases h
theorem Rep.gt {Z : Zt} {m : List Addr} {S : Sto} {H : Hp} (R : Rep Z m S H) {n : Nat} {l : List Val} {a : Addr} (h : getL S n = some l) (ha : m[n]? = some a) : ∃ xs, H a = some (.lst xs) ∧ RVs Z.K H m l xs := by
  unfold getL at h
  split at h
  · rename_i k e
    cases h
    exact R.ob n _ a e ha
  · cases h
theorem getL_at {S : Sto} {n : Nat} {l : List Val} (h : getL S n = some l) : S[n]? = some (.lst l) := by
  unfold getL at h
  split at h
  · rename_i k e
    cases h
    exact e
  · cases h
/-- an object of ours can stand at each place -/
theorem heap_with (ob : PySem.Obj) (hf : ob.isFreed = false) : ∀ n : Nat, ∃ h : Heap, h.objs.size = n ∧ (∀ a, a < n → h.get? a = some ob) ∧ ∀ a o, h.get? a = some o → o = ob
  | 0 => ⟨default, rfl, fun a h => absurd h (Nat.not_lt_zero a), fun a o e => by
    have h1 := Heap.lt_size e
    have h2 : (default : Heap).objs.size = 0 := rfl
    rw [h2] at h1
    exact absurd h1 (Nat.not_lt_zero a)⟩
  | n + 1 => by
    obtain ⟨h, h1, h2, h3⟩ := heap_with ob hf n
    have e0 : (h.push ob).get? n = some ob := by
      have := Heap.get?_push_size h hf
      rw [h1] at this
      exact this
    refine ⟨h.push ob, by rw [Heap.size_push, h1], fun a ha => ?_, fun a o e => ?_⟩
    · by_cases c : a = n
      · rw [c]; exact e0
      · exact Heap.get?_push_of_some _ (h2 a (Nat.lt_of_le_of_ne (Nat.le_of_lt_succ ha) c))
    · by_cases c : a = n
      · rw [c, e0] at e
        exact (Option.some.inj e).symm
      · have l1 := Heap.lt_size e
        rw [Heap.size_push, h1] at l1
        have e2 := h2 a (Nat.lt_of_le_of_ne (Nat.le_of_lt_succ l1) c)
        rw [Heap.get?_push_of_some ob e2] at e
        exact (Option.some.inj e).symm
theorem pin_code {a c : Addr} {ob : PySem.Obj} {q : Str} {es : Array DictEntry} {ep : Nat} (hd : ob.data = .dict es ep) : TD.pin a ob ≠ LamX.CodeO c q := by
  intro e
  unfold TD.pin LamX.CodeO at e
  injection e with e
  obtain ⟨h, h1, h2, h3⟩ := heap_with ob (Obj.isFreed_of_dict hd) (a + 1)
  have h4 : h.get? a = some ob := h2 a (Nat.lt_succ_self _)
  have h5 := (congrFun e h).mp h4
  obtain ⟨oc, vs, tk, k1, k2, _⟩ := h5
  rw [h3 c oc k1, hd] at k2
  cases k2
theorem tabs_keep {Z : Zt} {H H' : Hp} (t : TabsX Z H) (e : ∀ b o, H b = some o → (∀ xs, o ≠ .lst xs) → (∀ a ob es ep, ob.data = .dict es ep → o ≠ TD.pin a ob) → H' b = some o) : TabsX Z H' := by
  refine ⟨fun p hp => ?_, fun p hp => e _ _ (t.2 p hp) (fun xs z => by cases z) fun a ob es ep _ z => by cases z⟩
  obtain ⟨ps, h1, h2, h3⟩ := t.1 p hp
  refine ⟨ps, e _ _ h1 (fun xs z => by cases z) (fun a ob es ep _ z => by cases z), h2, fun pos cv hc => ?_⟩
  obtain ⟨c, e1, e2⟩ := h3 pos cv hc
  refine ⟨c, e1, e _ _ e2 (fun xs z => ?_) fun a ob es ep hd z => pin_code hd z.symm⟩
  unfold LamX.CodeO at z
  cases z
/-- a fresh object of the heap that the store does not see -/
theorem Grow.new {m : List Addr} {H : Hp} {p : Addr} {o : HO} (hp : H p = none) : Grow m H m (upd H p o) := by
  refine ⟨⟨[], by simp, by simp⟩, fun a u h _ _ => ?_, fun a u h n => ⟨u, ?_, n⟩⟩
  · rw [upd_ne (ne_of_none h hp)]
    exact h
  · rw [upd_ne (ne_of_none h hp)]
    exact h
theorem Rep.not_mem {Z : Zt} {m : List Addr} {S : Sto} {H : Hp} (R : Rep Z m S H) {p : Addr} (hp : H p = none) : p ∉ m := fun h => by
  rcases R.at h with ⟨xs, e⟩ | ⟨o, xs, e⟩ | ⟨ks, e⟩ | ⟨ks, e⟩ <;> rw [hp] at e <;> cases e
theorem Rep.new {Z : Zt} {m : List Addr} {S : Sto} {H : Hp} (R : Rep Z m S H) {p : Addr} {o : HO} (hp : H p = none) : Rep Z m S (upd H p o) := by
  have g : Grow m H m (upd H p o) := Grow.new hp
  refine ⟨R.len, R.nd, fun n ob a e ea => ?_, tabs_keep R.tabs fun b u h _ _ => by rw [upd_ne (ne_of_none h hp)]; exact h⟩
  have ne : a ≠ p := fun z => R.not_mem hp (z ▸ List.mem_of_getElem? ea)
  have q := R.ob n ob a e ea
  cases ob with
  | lst l =>
    obtain ⟨xs, h1, h2⟩ := q
    exact ⟨xs, by rw [upd_ne ne]; exact h1, RVs.grow R g l xs h2⟩
  | frz l =>
    obtain ⟨u, xs, h1, h2⟩ := q
    exact ⟨u, xs, by rw [upd_ne ne]; exact h1, RVs.grow R g l xs h2⟩
  | dic l =>
    obtain ⟨ks, h1, h2⟩ := q
    exact ⟨ks, by rw [upd_ne ne]; exact h1, h2.to (RV.grow R g)⟩
  | dtu l ob =>
    obtain ⟨xs, h1, h2, h3⟩ := q
    exact ⟨xs, by rw [upd_ne ne]; exact h1, h2.keep fun b ys => R.tup_keep g, h3.to (RV.grow R g)⟩
  | dki l ob =>
    obtain ⟨ks, h1, h2, h3⟩ := q
    exact ⟨ks, by rw [upd_ne ne]; exact h1, h2, h3.to (RV.grow R g)⟩
  | ins c l => exact q
/-- a fresh list that the store sees -/
theorem Grow.alloc {m : List Addr} {H : Hp} {p : Addr} {o : HO} (hp : H p = none) : Grow m H (m ++ [p]) (upd H p o) := by
  obtain ⟨_, k, d⟩ : Grow m H m (upd H p o) := Grow.new hp
  exact ⟨⟨[p], rfl, fun a h o ho => by simp at h; rw [h, hp] at ho; cases ho⟩, k, d⟩
theorem Rep.alloc {Z : Zt} {m : List Addr} {S : Sto} {H : Hp} (R : Rep Z m S H) {p : Addr} {l : List Val} {xs : List V} (hp : H p = none) (r : RVs Z.K H m l xs) : Rep Z (m ++ [p]) (S ++ [.lst l]) (upd H p (.lst xs)) := by
  have g : Grow m H (m ++ [p]) (upd H p (.lst xs)) := Grow.alloc hp
  refine ⟨by rw [List.length_append, List.length_append, R.len]; rfl, ?_, fun n ob a e ea => ?_, tabs_keep R.tabs fun b u h _ _ => by rw [upd_ne (ne_of_none h hp)]; exact h⟩
  · rw [List.nodup_append]
    refine ⟨R.nd, by simp, fun a ha b hb e => ?_⟩
    simp at hb
    rw [e, hb] at ha
    exact R.not_mem hp ha
  · by_cases hn : n < S.length
    · rw [List.getElem?_append_left hn] at e
      rw [List.getElem?_append_left (by rw [R.len]; exact hn)] at ea
      have ne : a ≠ p := fun z => R.not_mem hp (z ▸ List.mem_of_getElem? ea)
      have q := R.ob n ob a e ea
      cases ob with
      | lst l =>
        obtain ⟨xs, h1, h2⟩ := q
        exact ⟨xs, by rw [upd_ne ne]; exact h1, RVs.grow R g l xs h2⟩
      | frz l =>
        obtain ⟨u, xs, h1, h2⟩ := q
        exact ⟨u, xs, by rw [upd_ne ne]; exact h1, RVs.grow R g l xs h2⟩
      | dic l =>
        obtain ⟨ks, h1, h2⟩ := q
        exact ⟨ks, by rw [upd_ne ne]; exact h1, h2.to (RV.grow R g)⟩
      | dtu l ob =>
        obtain ⟨xs, h1, h2, h3⟩ := q
        exact ⟨xs, by rw [upd_ne ne]; exact h1, h2.keep fun b ys => R.tup_keep g, h3.to (RV.grow R g)⟩
      | dki l ob =>
        obtain ⟨ks, h1, h2, h3⟩ := q
        exact ⟨ks, by rw [upd_ne ne]; exact h1, h2, h3.to (RV.grow R g)⟩
      | ins c l => exact q
    · have hn2 : n = S.length := by
        have := (List.getElem?_eq_some_iff.mp e).1
        rw [List.length_append] at this
        simp at this
        omega
      subst hn2
      rw [List.getElem?_append_right (Nat.le_refl _), Nat.sub_self] at e
      rw [List.getElem?_append_right (by rw [R.len]; exact Nat.le_refl _), R.len, Nat.sub_self] at ea
      simp at e ea
      subst e ea
      exact ⟨xs, upd_same, RVs.grow R g l xs r⟩
/-- a fresh dict -/
theorem Rep.allocD {Z : Zt} {m : List Addr} {S : Sto} {H : Hp} (R : Rep Z m S H) {p : Addr} (hp : H p = none) {l : List (Ky × Val)} {ks : List (L2.Key × V)} (r : DR Z.K H m l ks) : Rep Z (m ++ [p]) (S ++ [.dic l]) (upd H p (.dK ks)) := by
  have g : Grow m H (m ++ [p]) (upd H p (.dK ks)) := Grow.alloc hp
  refine ⟨by rw [List.length_append, List.length_append, R.len]; rfl, ?_, fun n ob a e ea => ?_, tabs_keep R.tabs fun b u h _ _ => by rw [upd_ne (ne_of_none h hp)]; exact h⟩
  · rw [List.nodup_append]
    refine ⟨R.nd, by simp, fun a ha b hb e => ?_⟩
    simp at hb
    rw [e, hb] at ha
    exact R.not_mem hp ha
  · by_cases hn : n < S.length
    · rw [List.getElem?_append_left hn] at e
      rw [List.getElem?_append_left (by rw [R.len]; exact hn)] at ea
      have ne : a ≠ p := fun z => R.not_mem hp (z ▸ List.mem_of_getElem? ea)
      have q := R.ob n ob a e ea
      cases ob with
      | lst l =>
        obtain ⟨xs, h1, h2⟩ := q
        exact ⟨xs, by rw [upd_ne ne]; exact h1, RVs.grow R g l xs h2⟩
      | frz l =>
        obtain ⟨u, xs, h1, h2⟩ := q
        exact ⟨u, xs, by rw [upd_ne ne]; exact h1, RVs.grow R g l xs h2⟩
      | dic l =>
        obtain ⟨ks, h1, h2⟩ := q
        exact ⟨ks, by rw [upd_ne ne]; exact h1, h2.to (RV.grow R g)⟩
      | dtu l ob =>
        obtain ⟨xs, h1, h2, h3⟩ := q
        exact ⟨xs, by rw [upd_ne ne]; exact h1, h2.keep fun b ys => R.tup_keep g, h3.to (RV.grow R g)⟩
      | dki l ob =>
        obtain ⟨ks, h1, h2, h3⟩ := q
        exact ⟨ks, by rw [upd_ne ne]; exact h1, h2, h3.to (RV.grow R g)⟩
      | ins c l => exact q
    · have hn2 : n = S.length := by
        have := (List.getElem?_eq_some_iff.mp e).1
        rw [List.length_append] at this
        simp at this
        omega
      subst hn2
      rw [List.getElem?_append_right (Nat.le_refl _), Nat.sub_self] at e
      rw [List.getElem?_append_right (by rw [R.len]; exact Nat.le_refl _), R.len, Nat.sub_self] at ea
      simp at e ea
      subst e ea
      exact ⟨ks, upd_same, r.to (RV.grow R g)⟩
/-- a fresh dict with tuples as keys -/
theorem Rep.allocT {Z : Zt} {m : List Addr} {S : Sto} {H : Hp} (R : Rep Z m S H) {p : Addr} (hp : H p = none) {l : List (List Int × Val)} {xs : List TD.Row} {ob : PySem.Obj} (T : TD.TDict Z.K (upd H p (TD.pin p ob)) ob p xs) (r : TR Z.K H m l xs) : Rep Z (m ++ [p]) (S ++ [.dtu l ob]) (upd H p (TD.pin p ob)) := by
  have g : Grow m H (m ++ [p]) (upd H p (TD.pin p ob)) := Grow.alloc hp
  refine ⟨by rw [List.length_append, List.length_append, R.len]; rfl, ?_, fun n ob' a e ea => ?_, tabs_keep R.tabs fun b u h _ _ => by rw [upd_ne (ne_of_none h hp)]; exact h⟩
  · rw [List.nodup_append]
    refine ⟨R.nd, by simp, fun a ha b hb e => ?_⟩
    simp at hb
    rw [e, hb] at ha
    exact R.not_mem hp ha
  · by_cases hn : n < S.length
    · rw [List.getElem?_append_left hn] at e
      rw [List.getElem?_append_left (by rw [R.len]; exact hn)] at ea
      have ne : a ≠ p := fun z => R.not_mem hp (z ▸ List.mem_of_getElem? ea)
      have q := R.ob n ob' a e ea
      cases ob' with
      | lst l =>
        obtain ⟨xs, h1, h2⟩ := q
        exact ⟨xs, by rw [upd_ne ne]; exact h1, RVs.grow R g l xs h2⟩
      | frz l =>
        obtain ⟨u, xs, h1, h2⟩ := q
        exact ⟨u, xs, by rw [upd_ne ne]; exact h1, RVs.grow R g l xs h2⟩
      | dic l =>
        obtain ⟨ks, h1, h2⟩ := q
        exact ⟨ks, by rw [upd_ne ne]; exact h1, h2.to (RV.grow R g)⟩
      | dtu l ob =>
        obtain ⟨xs, h1, h2, h3⟩ := q
        exact ⟨xs, by rw [upd_ne ne]; exact h1, h2.keep fun b ys => R.tup_keep g, h3.to (RV.grow R g)⟩
      | dki l ob =>
        obtain ⟨ks, h1, h2, h3⟩ := q
        exact ⟨ks, by rw [upd_ne ne]; exact h1, h2, h3.to (RV.grow R g)⟩
      | ins c l => exact q
    · have hn2 : n = S.length := by
        have := (List.getElem?_eq_some_iff.mp e).1
        rw [List.length_append] at this
        simp at this
        omega
      subst hn2
      rw [List.getElem?_append_right (Nat.le_refl _), Nat.sub_self] at e
      rw [List.getElem?_append_right (by rw [R.len]; exact Nat.le_refl _), R.len, Nat.sub_self] at ea
      simp at e ea
      subst e ea
      exact ⟨xs, upd_same, T, r.to (RV.grow R g)⟩
/-- a fresh dict with whole numbers as keys -/
theorem Rep.allocK {Z : Zt} {m : List Addr} {S : Sto} {H : Hp} (R : Rep Z m S H) {p : Addr} (hp : H p = none) {l : List (Ky × Val)} {xs : List (L2.Key × V)} {ob : PySem.Obj} (T : KD.KDict ob p xs) (r : DR Z.K H m l xs) : Rep Z (m ++ [p]) (S ++ [.dki l ob]) (upd H p (TD.pin p ob)) := by
  have g : Grow m H (m ++ [p]) (upd H p (TD.pin p ob)) := Grow.alloc hp
  refine ⟨by rw [List.length_append, List.length_append, R.len]; rfl, ?_, fun n ob' a e ea => ?_, tabs_keep R.tabs fun b u h _ _ => by rw [upd_ne (ne_of_none h hp)]; exact h⟩
  · rw [List.nodup_append]
    refine ⟨R.nd, by simp, fun a ha b hb e => ?_⟩
    simp at hb
    rw [e, hb] at ha
    exact R.not_mem hp ha
  · by_cases hn : n < S.length
    · rw [List.getElem?_append_left hn] at e
      rw [List.getElem?_append_left (by rw [R.len]; exact hn)] at ea
      have ne : a ≠ p := fun z => R.not_mem hp (z ▸ List.mem_of_getElem? ea)
      have q := R.ob n ob' a e ea
      cases ob' with
      | lst l =>
        obtain ⟨xs, h1, h2⟩ := q
        exact ⟨xs, by rw [upd_ne ne]; exact h1, RVs.grow R g l xs h2⟩
      | frz l =>
        obtain ⟨u, xs, h1, h2⟩ := q
        exact ⟨u, xs, by rw [upd_ne ne]; exact h1, RVs.grow R g l xs h2⟩
      | dic l =>
        obtain ⟨ks, h1, h2⟩ := q
        exact ⟨ks, by rw [upd_ne ne]; exact h1, h2.to (RV.grow R g)⟩
      | dtu l ob =>
        obtain ⟨xs, h1, h2, h3⟩ := q
        exact ⟨xs, by rw [upd_ne ne]; exact h1, h2.keep fun b ys => R.tup_keep g, h3.to (RV.grow R g)⟩
      | dki l ob =>
        obtain ⟨ks, h1, h2, h3⟩ := q
        exact ⟨ks, by rw [upd_ne ne]; exact h1, h2, h3.to (RV.grow R g)⟩
      | ins c l => exact q
    · have hn2 : n = S.length := by
        have := (List.getElem?_eq_some_iff.mp e).1
        rw [List.length_append] at this
        simp at this
        omega
      subst hn2
      rw [List.getElem?_append_right (Nat.le_refl _), Nat.sub_self] at e
      rw [List.getElem?_append_right (by rw [R.len]; exact Nat.le_refl _), R.len, Nat.sub_self] at ea
      simp at e ea
      subst e ea
      exact ⟨xs, upd_same, T, r.to (RV.grow R g)⟩
/-- a list of the store is written -/
theorem Grow.put {m : List Addr} {H : Hp} {p : Addr} {o : HO} (hp : p ∈ m) (hq : H p ≠ none) (ho : ∀ ps, o ≠ .tbl ps := by intro ps z; cases z) : Grow m H m (upd H p o) := by
  refine ⟨⟨[], by simp, by simp⟩, fun a u h hm _ => ?_, fun a u h n => ?_⟩
  · rw [upd_ne (fun z : a = p => hm (by rw [z]; exact hp))]
    exact h
  · by_cases e : a = p
    · subst e; exact ⟨_, upd_same, ho⟩
    · exact ⟨u, by rw [upd_ne e]; exact h, n⟩
theorem Rep.put {Z : Zt} {m : List Addr} {S : Sto} {H : Hp} (R : Rep Z m S H) {p : Addr} {n : Nat} {l : List Val} {xs ys : List V} (hp : H p = some (.lst ys)) (hn : m[n]? = some p) (r : RVs Z.K H m l xs) : Rep Z m (S.set n (.lst l)) (upd H p (.lst xs)) := by
  have hm : p ∈ m := List.mem_of_getElem? hn
  have g : Grow m H m (upd H p (.lst xs)) := Grow.put hm (by rw [hp]; simp)
  refine ⟨by rw [List.length_set, R.len], R.nd, fun k ob a e ea => ?_, tabs_keep R.tabs fun b u h nl _ => by rw [upd_ne (fun z => by rw [z, hp] at h; exact nl ys (Option.some.inj h).symm)]; exact h⟩
  by_cases hk : k = n
  · subst hk
    rw [hn] at ea
    cases ea
    have hl : k < S.length := by rw [← R.len]; exact (List.getElem?_eq_some_iff.mp hn).1
    rw [List.getElem?_set_self hl] at e
    cases e
    exact ⟨xs, upd_same, RVs.grow R g l xs r⟩
  · rw [List.getElem?_set_ne (Ne.symm hk)] at e
    have ne : a ≠ p := fun z => hk (by
      subst z
      obtain ⟨h1, e1⟩ := List.getElem?_eq_some_iff.mp ea
      obtain ⟨h2, e2⟩ := List.getElem?_eq_some_iff.mp hn
      exact (List.getElem_inj R.nd).mp (e1.trans e2.symm))
    have q := R.ob k ob a e ea
    cases ob with
    | lst l =>
      obtain ⟨xs, h1, h2⟩ := q
      exact ⟨xs, by rw [upd_ne ne]; exact h1, RVs.grow R g l xs h2⟩
    | frz l =>
      obtain ⟨u, xs, h1, h2⟩ := q
      exact ⟨u, xs, by rw [upd_ne ne]; exact h1, RVs.grow R g l xs h2⟩
    | dic l =>
      obtain ⟨ks, h1, h2⟩ := q
      exact ⟨ks, by rw [upd_ne ne]; exact h1, h2.to (RV.grow R g)⟩
    | dtu l ob =>
      obtain ⟨xs, h1, h2, h3⟩ := q
      exact ⟨xs, by rw [upd_ne ne]; exact h1, h2.keep fun b ys => R.tup_keep g, h3.to (RV.grow R g)⟩
    | dki l ob =>
      obtain ⟨ks, h1, h2, h3⟩ := q
      exact ⟨ks, by rw [upd_ne ne]; exact h1, h2, h3.to (RV.grow R g)⟩
    | ins c l => exact q
/-- a dict of the store is written -/
theorem Rep.putT {Z : Zt} {m : List Addr} {S : Sto} {H : Hp} (R : Rep Z m S H) {p : Addr} {n : Nat} {l : List (List Int × Val)} {xs : List TD.Row} {ob0 ob : PySem.Obj} {es : Array DictEntry} {ep : Nat} (hp : H p = some (TD.pin p ob0)) (hd : ob0.data = .dict es ep) (hn : m[n]? = some p) (T : TD.TDict Z.K (upd H p (TD.pin p ob)) ob p xs) (r : TR Z.K H m l xs) : Rep Z m (S.set n (.dtu l ob)) (upd H p (TD.pin p ob)) := by
  have hm : p ∈ m := List.mem_of_getElem? hn
  have g : Grow m H m (upd H p (TD.pin p ob)) := Grow.put hm (by rw [hp]; simp)
  refine ⟨by rw [List.length_set, R.len], R.nd, fun k ob' a e ea => ?_, tabs_keep R.tabs fun b u h _ nl => by rw [upd_ne (fun z => by rw [z, hp] at h; exact nl _ _ _ _ hd (Option.some.inj h).symm)]; exact h⟩
  by_cases hk : k = n
  · subst hk
    rw [hn] at ea
    cases ea
    have hl : k < S.length := by rw [← R.len]; exact (List.getElem?_eq_some_iff.mp hn).1
    rw [List.getElem?_set_self hl] at e
    cases e
    exact ⟨xs, upd_same, T, r.to (RV.grow R g)⟩
  · rw [List.getElem?_set_ne (Ne.symm hk)] at e
    have ne : a ≠ p := fun z => hk (by
      subst z
      obtain ⟨h1, e1⟩ := List.getElem?_eq_some_iff.mp ea
      obtain ⟨h2, e2⟩ := List.getElem?_eq_some_iff.mp hn
      exact (List.getElem_inj R.nd).mp (e1.trans e2.symm))
    have q := R.ob k ob' a e ea
    cases ob' with
    | lst l =>
      obtain ⟨xs, h1, h2⟩ := q
      exact ⟨xs, by rw [upd_ne ne]; exact h1, RVs.grow R g l xs h2⟩
    | frz l =>
      obtain ⟨u, xs, h1, h2⟩ := q
      exact ⟨u, xs, by rw [upd_ne ne]; exact h1, RVs.grow R g l xs h2⟩
    | dic l =>
      obtain ⟨ks, h1, h2⟩ := q
      exact ⟨ks, by rw [upd_ne ne]; exact h1, h2.to (RV.grow R g)⟩
    | dtu l ob =>
      obtain ⟨xs, h1, h2, h3⟩ := q
      exact ⟨xs, by rw [upd_ne ne]; exact h1, h2.keep fun b ys => R.tup_keep g, h3.to (RV.grow R g)⟩
    | dki l ob =>
      obtain ⟨ks, h1, h2, h3⟩ := q
      exact ⟨ks, by rw [upd_ne ne]; exact h1, h2, h3.to (RV.grow R g)⟩
    | ins c l => exact q
/-- a dict of the store is written -/
theorem Rep.putK {Z : Zt} {m : List Addr} {S : Sto} {H : Hp} (R : Rep Z m S H) {p : Addr} {n : Nat} {l : List (Ky × Val)} {xs : List (L2.Key × V)} {ob0 ob : PySem.Obj} {es : Array DictEntry} {ep : Nat} (hp : H p = some (TD.pin p ob0)) (hd : ob0.data = .dict es ep) (hn : m[n]? = some p) (T : KD.KDict ob p xs) (r : DR Z.K H m l xs) : Rep Z m (S.set n (.dki l ob)) (upd H p (TD.pin p ob)) := by
  have hm : p ∈ m := List.mem_of_getElem? hn
  have g : Grow m H m (upd H p (TD.pin p ob)) := Grow.put hm (by rw [hp]; simp)
  refine ⟨by rw [List.length_set, R.len], R.nd, fun k ob' a e ea => ?_, tabs_keep R.tabs fun b u h _ nl => by rw [upd_ne (fun z => by rw [z, hp] at h; exact nl _ _ _ _ hd (Option.some.inj h).symm)]; exact h⟩
  by_cases hk : k = n
  · subst hk
    rw [hn] at ea
    cases ea
    have hl : k < S.length := by rw [← R.len]; exact (List.getElem?_eq_some_iff.mp hn).1
    rw [List.getElem?_set_self hl] at e
    cases e
    exact ⟨xs, upd_same, T, r.to (RV.grow R g)⟩
  · rw [List.getElem?_set_ne (Ne.symm hk)] at e
    have ne : a ≠ p := fun z => hk (by
      subst z
      obtain ⟨h1, e1⟩ := List.getElem?_eq_some_iff.mp ea
      obtain ⟨h2, e2⟩ := List.getElem?_eq_some_iff.mp hn
      exact (List.getElem_inj R.nd).mp (e1.trans e2.symm))
    have q := R.ob k ob' a e ea
    cases ob' with
    | lst l =>
      obtain ⟨xs, h1, h2⟩ := q
      exact ⟨xs, by rw [upd_ne ne]; exact h1, RVs.grow R g l xs h2⟩
    | frz l =>
      obtain ⟨u, xs, h1, h2⟩ := q
      exact ⟨u, xs, by rw [upd_ne ne]; exact h1, RVs.grow R g l xs h2⟩
    | dic l =>
      obtain ⟨ks, h1, h2⟩ := q
      exact ⟨ks, by rw [upd_ne ne]; exact h1, h2.to (RV.grow R g)⟩
    | dtu l ob =>
      obtain ⟨xs, h1, h2, h3⟩ := q
      exact ⟨xs, by rw [upd_ne ne]; exact h1, h2.keep fun b ys => R.tup_keep g, h3.to (RV.grow R g)⟩
    | dki l ob =>
      obtain ⟨ks, h1, h2, h3⟩ := q
      exact ⟨ks, by rw [upd_ne ne]; exact h1, h2, h3.to (RV.grow R g)⟩
    | ins c l => exact q
/-! ### what a dict with tuples as keys tells -/
theorem Rep.rdK {Z : Zt} {m : List Addr} {S : Sto} {H : Hp} (R : Rep Z m S H) {n : Nat} {l : List (Ky × Val)} {a : Addr} (h : getI S n = some l) (ha : m[n]? = some a) : ∃ ob ks, H a = some (TD.pin a ob) ∧ KD.KDict ob a ks ∧ DR Z.K H m l ks := by
  unfold getI at h
  split at h
  · rename_i k ob e
    cases h
    obtain ⟨ks, h1, h2, h3⟩ := R.ob n _ a e ha
    exact ⟨ob, ks, h1, h2, h3⟩
  · cases h
theorem Rep.rdT {Z : Zt} {m : List Addr} {S : Sto} {H : Hp} (R : Rep Z m S H) {n : Nat} {l : List (List Int × Val)} {a : Addr} (h : getT S n = some l) (ha : m[n]? = some a) : ∃ ob xs, H a = some (TD.pin a ob) ∧ TD.TDict Z.K H ob a xs ∧ TR Z.K H m l xs := by
  unfold getT at h
  split at h
  · rename_i k ob e
    cases h
    obtain ⟨xs, h1, h2, h3⟩ := R.ob n _ a e ha
    exact ⟨ob, xs, h1, h2, h3⟩
  · cases h
theorem intsO_eq : ∀ {l : List Val} {ks : List Int}, intsO l = some ks → l = ks.map .int
  | [], ks, h => by cases h; rfl
  | v :: l, ks, h => by
    cases v with
    | int i =>
      obtain ⟨k, e1, rfl⟩ := Option.map_eq_some_iff.mp (show (intsO l).map (i :: ·) = some ks from h)
      rw [intsO_eq e1]
      rfl
    | _ => cases h
theorem keyT_eq {v : Val} {ks : List Int} (h : keyT v = some ks) : v = tupI ks := by
  cases v with
  | tup l =>
    have := intsO_eq (show intsO l = some ks from h)
    rw [this]
    rfl
  | _ => cases h
theorem RVs.of_tupI {K : PySem.W.Frag} {H : Hp} {m : List Addr} : ∀ {ks : List Int} {xs : List V}, RVs K H m (ks.map .int) xs → xs = ks.map V.int
  | [], xs, h => by simp only [List.map_nil, RVs] at h; rw [h]; rfl
  | k :: ks, xs, h => by
    simp only [List.map_cons, RVs] at h
    obtain ⟨x, r, rfl, h1, h2⟩ := h
    simp only [RV] at h1
    rw [h1, RVs.of_tupI h2]
    rfl
theorem keyT_V {K : PySem.W.Frag} {H : Hp} {m : List Addr} {v : Val} {x : V} {ks : List Int} (h : keyT v = some ks) (r : RV K H m v x) : ∃ b, x = .ref b ∧ SqT K H b (ks.map V.int) := by
  rw [keyT_eq h] at r
  unfold tupI at r
  simp only [RV] at r
  obtain ⟨a, xs, rfl, hs, hr⟩ := r
  rw [RVs.of_tupI hr] at hs
  exact ⟨a, rfl, hs⟩
theorem tupI_V {K : PySem.W.Frag} {H : Hp} {m : List Addr} {ks : List Int} {b : Addr} (h : SqT K H b (ks.map V.int)) : RV K H m (tupI ks) (.ref b) := by
  unfold tupI
  simp only [RV]
  exact ⟨b, _, rfl, h, RVs.of_ints ks⟩
theorem TR.len {K : PySem.W.Frag} {H : Hp} {m : List Addr} : ∀ {l : List (List Int × Val)} {xs : List TD.Row}, TR K H m l xs → l.length = xs.length
  | [], _, h => by have h : _ = [] := h; rw [h]; rfl
  | _ :: _, _, ⟨q, r, e, _, _, h4⟩ => by rw [e, List.length_cons, List.length_cons, TR.len h4]
theorem TR.at {K : PySem.W.Frag} {H : Hp} {m : List Addr} {k : List Int} : ∀ {l : List (List Int × Val)} {xs : List TD.Row}, TR K H m l xs → (∀ p, atKey xs k = some p → ∃ v x, valT l k = some v ∧ RV K H m v x ∧ RelV x p.2) ∧ (atKey xs k = none → valT l k = none)
  | [], _, h => by
    have h : _ = [] := h
    subst h
    exact ⟨fun p e => by simp [atKey] at e, fun _ => rfl⟩
  | p :: l, _, ⟨q, r, e, h1, ⟨x, h2, h3⟩, h4⟩ => by
    subst e
    obtain ⟨i1, i2⟩ := TR.at (k := k) h4
    by_cases c : q.1 = k
    · have ea : atKey (q :: r) k = some q.2 := by simp [atKey, List.find?_cons, c]
      have ev : valT (p :: l) k = some p.2 := by simp only [valT]; rw [if_pos (h1.symm.trans c)]
      rw [ea, ev]
      exact ⟨fun p' e => by cases e; exact ⟨_, x, rfl, h2, h3⟩, fun e => nomatch e⟩
    · have ea : atKey (q :: r) k = atKey r k := by simp [atKey, List.find?_cons, c]
      have ev : valT (p :: l) k = valT l k := by simp only [valT]; rw [if_neg (fun z => c (h1.trans z))]
      rw [ea, ev]
      exact ⟨i1, i2⟩
theorem TR.app {K : PySem.W.Frag} {H : Hp} {m : List Addr} {p : List Int × Val} {q : TD.Row} {x : V} (e : q.1 = p.1) (r : RV K H m p.2 x) (rv : RelV x q.2.2) : ∀ {l : List (List Int × Val)} {xs : List TD.Row}, TR K H m l xs → TR K H m (l ++ [p]) (xs ++ [q])
  | [], _, h => by
    have h : _ = [] := h
    subst h
    exact ⟨q, [], rfl, e, ⟨x, r, rv⟩, rfl⟩
  | _ :: _, _, ⟨q', r', e', h1, h2, h4⟩ => by
    subst e'
    exact ⟨q', r' ++ [q], rfl, h1, h2, TR.app e r rv h4⟩
theorem TR.mapK {K : PySem.W.Frag} {H : Hp} {m : List Addr} {k : List Int} {v : Val} {x : V} {u : Value} (r : RV K H m v x) (rv : RelV x u) : ∀ {l : List (List Int × Val)} {xs : List TD.Row}, TR K H m l xs → TR K H m (l.map fun p => if p.1 = k then (p.1, v) else p) (xs.map (putAt k u))
  | [], _, h => by
    have h : _ = [] := h
    subst h
    exact rfl
  | p :: l, _, ⟨q, r', e', h1, h2, h4⟩ => by
    subst e'
    refine ⟨putAt k u q, _, rfl, ?_, ?_, TR.mapK r rv h4⟩
    · unfold putAt
      dsimp only
      by_cases c : q.1 = k
      · rw [if_pos c, if_pos (h1.symm.trans c)]; exact h1
      · rw [if_neg c, if_neg (fun z => c (h1.trans z))]; exact h1
    · unfold putAt
      dsimp only
      by_cases c : q.1 = k
      · rw [if_pos c, if_pos (h1.symm.trans c)]; exact ⟨x, r, rv⟩
      · rw [if_neg c, if_neg (fun z => c (h1.trans z))]; exact h2
theorem TR.put {K : PySem.W.Frag} {H : Hp} {m : List Addr} {k : List Int} {b : Addr} {v : Val} {x : V} {u : Value} (r : RV K H m v x) (rv : RelV x u) {l : List (List Int × Val)} {xs : List TD.Row} (h : TR K H m l xs) : TR K H m (putT l k v) (storedH xs k b u) := by
  obtain ⟨i1, i2⟩ := TR.at (k := k) h
  unfold putT
  cases e : atKey xs k with
  | none =>
    rw [i2 e, storedH_new e]
    exact TR.app (p := (k, v)) (q := (k, b, u)) rfl r rv h
  | some p =>
    obtain ⟨v', x', e', _⟩ := i1 p e
    rw [e', storedH_old e]
    exact h.mapK r rv
theorem TR.merge {K : PySem.W.Frag} {H : Hp} {m : List Addr} : ∀ {l acc : List (List Int × Val)} {xs xa : List TD.Row}, TR K H m acc xa → TR K H m l xs → TR K H m (mergeT acc l) (storedAllH xa xs)
  | [], _, _, _, ha, h => by
    have h : _ = [] := h
    subst h
    exact ha
  | p :: l, acc, _, xa, ha, ⟨q, r, e, h1, ⟨x, h2, h3⟩, h4⟩ => by
    subst e
    have h5 : TR K H m (putT acc p.1 p.2) (storedH xa q.1 q.2.1 q.2.2) := by
      rw [h1]
      exact ha.put h2 h3
    show TR K H m (mergeT (putT acc p.1 p.2) l) (storedAllH (storedH xa q.1 q.2.1 q.2.2) r)
    exact TR.merge h5 h4
theorem TR.vals {K : PySem.W.Frag} {H : Hp} {m : List Addr} : ∀ {l : List (List Int × Val)} {xs : List TD.Row}, TR K H m l xs → ∃ vs : List V, RVs K H m (l.map (·.2)) vs ∧ vs.length = xs.length ∧ ∀ (i : Nat) (y : TD.Row), xs[i]? = some y → ∃ v, vs[i]? = some v ∧ RelV v y.2.2
  | [], _, h => by
    have h : _ = [] := h
    subst h
    exact ⟨[], RVs.nil, rfl, fun i y e => by simp at e⟩
  | p :: l, _, ⟨q, r, e, h1, ⟨x, h2, h3⟩, h4⟩ => by
    subst e
    obtain ⟨vs, v1, v2, v3⟩ := TR.vals h4
    refine ⟨x :: vs, RVs.cons h2 v1, by simp [v2], fun i y e => ?_⟩
    cases i with
    | zero => cases e; exact ⟨x, rfl, h3⟩
    | succ i => simpa using v3 i y (by simpa using e)
theorem TR.get {K : PySem.W.Frag} {H : Hp} {m : List Addr} : ∀ {l : List (List Int × Val)} {xs : List TD.Row} {i : Nat} {p : List Int × Val}, TR K H m l xs → l[i]? = some p → ∃ q, xs[i]? = some q ∧ q.1 = p.1
  | [], _, _, _, _, e => by simp at e
  | p :: l, _, 0, p', ⟨q, r, e, h1, _, _⟩, e' => by
    subst e
    simp at e'
    subst e'
    exact ⟨q, rfl, h1⟩
  | p :: l, _, i + 1, p', ⟨q, r, e, _, _, h4⟩, e' => by
    subst e
    simpa using TR.get h4 (by simpa using e')
end Mp

set_option Elab.async false
set_option linter.all false
set_option maxRecDepth 100000
set_option autoImplicit false
/-! Mini3: the operations of Mini1 are the model's. -/
namespace Mp
open PySem PySem.Spec PyProof.Rows L2

theorem sz : sizeLine = 16777216 := sizeLine_eq
theorem bigLog {j : Int} (h0 : 0 < j) (h : j < 10000000000000000000000000000000000000000) : j.natAbs.log2 < 9000 := by
  have e : (2 : Nat) ^ 140 = 1393796574908163946345982392040522594123776 := by decide
  exact Nat.lt_of_lt_of_le (PySem.Flt.log2_lt_of (k := 140) (by decide) (by rw [e]; omega)) (by decide)
def KV (Z : Zt) (m : List Addr) (H : Hp) (P : QV) (Q : VK) : Prop :=
  ∀ v S' m' H' x, P v S' → Grow m H m' H' → Rep Z m' S' H' → RV Z.K H' m' v x → Q x H'
theorem KV.grow {Z : Zt} {m m1 : List Addr} {H H1 : Hp} {P : QV} {Q : VK} (k : KV Z m H P Q) (g : Grow m H m1 H1) : KV Z m1 H1 P Q :=
  fun v S' m' H' x p g' R r => k v S' m' H' x p (g.trans g') R r
section
variable {Z : Zt} {m : List Addr} {S : Sto} {H : Hp} {P : QV} {Q : VK}
theorem KV.same (k : KV Z m H P Q) (R : Rep Z m S H) {v : Val} {x : V} (p : P v S) (r : RV Z.K H m v x) : Q x H := k v S m H x p Grow.refl R r
theorem KV.int (k : KV Z m H P Q) (R : Rep Z m S H) {i : Int} (p : P (.int i) S) : Q (.int i) H := k.same R p (by simp only [RV])
theorem KV.bl (k : KV Z m H P Q) (R : Rep Z m S H) {b : Bool} (p : P (.bl b) S) : Q (.bl b) H := k.same R p (by simp only [RV])
theorem KV.str (k : KV Z m H P Q) (R : Rep Z m S H) {b : Str} (p : P (.str b) S) : Q (.str b) H := k.same R p (by simp only [RV])
theorem KV.non (k : KV Z m H P Q) (R : Rep Z m S H) (p : P .non S) : Q .non H := k.same R p (by simp only [RV])
theorem KV.tup (k : KV Z m H P Q) (R : Rep Z m S H) {l : List Val} {xs : List V} (p : P (.tup l) S) (r : RVs Z.K H m l xs) {a : Addr} (ha : H a = none) : Q (.ref a) (upd H a (.tup xs)) := by
  have g : Grow m H m (upd H a (.tup xs)) := Grow.new ha
  refine k _ S m _ _ p g (R.new ha) ?_
  simp only [RV]
  exact ⟨a, xs, rfl, SqT.of upd_same, RVs.grow R g l xs r⟩
theorem KV.alloc (k : KV Z m H P Q) (R : Rep Z m S H) {l : List Val} {xs : List V} (p : Mp.alloc (.lst l) S P) (r : RVs Z.K H m l xs) {a : Addr} (ha : H a = none) : Q (.ref a) (upd H a (.lst xs)) := by
  refine k _ _ _ _ _ p (Grow.alloc ha) (R.alloc ha r) ?_
  simp only [RV]
  refine ⟨a, ?_, rfl⟩
  rw [← R.len, List.getElem?_append_right (Nat.le_refl _), Nat.sub_self]
  rfl
theorem KV.allocD (k : KV Z m H P Q) (R : Rep Z m S H) {l : List (Ky × Val)} {ks : List (L2.Key × V)} (p : Mp.alloc (.dic l) S P) (r : DR Z.K H m l ks) {a : Addr} (ha : H a = none) : Q (.ref a) (upd H a (.dK ks)) := by
  refine k _ _ _ _ _ p (Grow.alloc ha) (R.allocD ha r) ?_
  simp only [RV]
  refine ⟨a, ?_, rfl⟩
  rw [← R.len, List.getElem?_append_right (Nat.le_refl _), Nat.sub_self]
  rfl
end
theorem KV.allocT {Z : Zt} {m : List Addr} {S : Sto} {H : Hp} {P : QV} {Q : VK} (k : KV Z m H P Q) (R : Rep Z m S H) {l : List (List Int × Val)} {xs : List TD.Row} {a : Addr} {ob : PySem.Obj} (p : P (.obj S.length) (S ++ [.dtu l ob])) (T : TD.TDict Z.K (upd H a (TD.pin a ob)) ob a xs) (r : TR Z.K H m l xs) (ha : H a = none) : Q (.ref a) (upd H a (TD.pin a ob)) := by
  refine k _ _ _ _ _ p (Grow.alloc ha) (R.allocT ha T r) ?_
  simp only [RV]
  refine ⟨a, ?_, rfl⟩
  rw [← R.len, List.getElem?_append_right (Nat.le_refl _), Nat.sub_self]
  rfl
theorem KV.allocK {Z : Zt} {m : List Addr} {S : Sto} {H : Hp} {P : QV} {Q : VK} (k : KV Z m H P Q) (R : Rep Z m S H) {l : List (Ky × Val)} {xs : List (L2.Key × V)} {a : Addr} {ob : PySem.Obj} (p : P (.obj S.length) (S ++ [.dki l ob])) (T : KD.KDict ob a xs) (r : DR Z.K H m l xs) (ha : H a = none) : Q (.ref a) (upd H a (TD.pin a ob)) := by
  refine k _ _ _ _ _ p (Grow.alloc ha) (R.allocK ha T r) ?_
  simp only [RV]
  refine ⟨a, ?_, rfl⟩
  rw [← R.len, List.getElem?_append_right (Nat.le_refl _), Nat.sub_self]
  rfl
theorem gts {S : Sto} {n : Nat} {l : List Val} (h : getL S n = some l) : rdL S n = some l := by
  have := getL_at h
  unfold rdL
  rw [this]
/-! ### binary operators -/
def bop : Bop → Operator
  | .add => .Add | .sub => .Sub | .mul => .Mult | .fdiv => .FloorDiv | .mod => .Mod | .pow => .Pow
def rB (Z : Zt) (o : Bop) : R2 := fun x y H Q => ∃ m S v u P, Rep Z m S H ∧ RV Z.K H m v x ∧ RV Z.K H m u y ∧ binS o v u S P ∧ KV Z m H P Q
theorem mulOk_c {i j : Int} (h : mulOk i j) : CMul i j := by
  unfold mulOk at h
  unfold CMul
  omega
theorem tuple_mul1 (l : Addr) (items : Array Value) (n : Nat) (dd : Option Addr) (sl : Array (Option Value)) (x : Int) (u : Tok) (c0 : (decide (x < -(2 ^ 63)) || decide (x ≥ 2 ^ 63)) = false) (c1 : (items.isEmpty || x == 1) = true) :
    Meets (Builtin.«tuple.__mul__» ⟨[.ref l, .int x u], []⟩) (fun _ R s => s.heap.get? l = some { cls := .type "tuple", dict := dd, data := .seq items n, slots := sl } ∧ R (.ok (.ret (.ref l))) s) :=
  .of_wp fun prog w A R s h => by
    obtain ⟨hp, g, d, tk, os⟩ := s
    obtain ⟨hl, h⟩ := h
    have f1 := AutoSeq1.idx_int
    wp_walk using wpAny_loadPart' hl
    repeat (first
      | (refine wpAny_ite_false (decide_eq_false (by rw [c0]; exact Bool.false_ne_true)) ?_; wp_walk using wpAny_loadPart' hl)
      | (refine wpAny_ite_true (decide_eq_true c1) ?_; wp_walk using wpAny_loadPart' hl))
    exact ⟨_, rfl, h⟩
theorem op_rep1 {X : Cx} : OpR X (binaryOp .Mult) (fun x y H Q => ∃ l k xs, x = .ref l ∧ y = .int k ∧ SqT X.K H l xs ∧ xs ≠ [] ∧ k = 1 ∧ Q x H) := by
  intro pins s σ H x y v u Q I rx ry h
  obtain ⟨l, k, xs, rfl, rfl, hT, hne, rfl, q⟩ := h
  cases rx
  obtain ⟨t, rfl⟩ := ry
  obtain ⟨its, r, ⟨⟨cls, dd, data, sl⟩, ho, hc, n, hd⟩, hs⟩ := I.tuple hT
  simp only at hc hd
  subst hc hd
  refine wpAny_binaryOp_repeat_ref (T := "tuple") (U := "int") (by decide) ⟨_, ho, rfl⟩ (fun s' => typeIs_int s' 1 t) noFill_tuple_mul F.fills_int_mul F.slot_int_rmul repeat_tuple F.slot_int_index.lookup
    (call_meets F.slot_int_rmul (typeIs_int s 1 t) F.entry_int_rmul (F.args_int_rmul_2 _ _) (int_rmul_tuple 1 t l its.toArray n dd sl)
      ⟨ho, rfl, ⟨_, ho, rfl⟩, call_meets F.slot_tuple_mul ⟨_, ho, rfl⟩ F.entry_tuple_mul (F.args_tuple_mul_2 _ _) (tuple_mul1 l its.toArray n dd sl 1 t (by decide) (by simp)) ⟨ho, ?_⟩⟩)
  exact ⟨.ref l, H, I, rfl, q⟩
theorem tuple_mul0 (l : Addr) (items : Array Value) (n : Nat) (dd : Option Addr) (sl : Array (Option Value)) (x : Int) (u : Tok) (c0 : (decide (x < -(2 ^ 63)) || decide (x ≥ 2 ^ 63)) = false) (c1 : (items.isEmpty || x == 1) = false) (c2 : (decide (x ≤ 0) || items.isEmpty) = true) :
    Meets (Builtin.«tuple.__mul__» ⟨[.ref l, .int x u], []⟩) (fun _ R s => s.heap.get? l = some { cls := .type "tuple", dict := dd, data := .seq items n, slots := sl } ∧
      R (.ok (.ret (Value.ref s.heap.objs.size))) { s with heap := s.heap.push { cls := Value.type "tuple", data := Data.seq #[] }, toks := s.toks }) :=
  .of_wp fun prog w A R s h => by
    obtain ⟨hp, g, d, tk, os⟩ := s
    obtain ⟨hl, h⟩ := h
    have f1 := AutoSeq1.idx_int
    wp_walk using wpAny_loadPart' hl
    repeat (first
      | (refine wpAny_ite_false (decide_eq_false (by rw [c0]; exact Bool.false_ne_true)) ?_; wp_walk using wpAny_loadPart' hl)
      | (refine wpAny_ite_false (decide_eq_false (by rw [c1]; exact Bool.false_ne_true)) ?_; wp_walk using wpAny_loadPart' hl)
      | (refine wpAny_ite_true (decide_eq_true c2) ?_; wp_walk using wpAny_loadPart' hl))
    exact ⟨_, rfl, h⟩
theorem op_rep0 {X : Cx} : OpR X (binaryOp .Mult) (fun x y H Q => ∃ l k xs, x = .ref l ∧ y = .int k ∧ SqT X.K H l xs ∧ xs ≠ [] ∧ k = 0 ∧ ∀ p, H p = none → Q (.ref p) (upd H p (.tup []))) := by
  intro pins s σ H x y v u Q I rx ry h
  obtain ⟨l, k, xs, rfl, rfl, hT, hne, rfl, q⟩ := h
  cases rx
  obtain ⟨t, rfl⟩ := ry
  obtain ⟨its, r, ⟨⟨cls, dd, data, sl⟩, ho, hc, n, hd⟩, hs⟩ := I.tuple hT
  simp only at hc hd
  subst hc hd
  have hi : its.toArray.isEmpty = false := by
    cases its with
    | nil => exact absurd (List.eq_nil_of_length_eq_zero r.length) hne
    | cons a b => rfl
  refine wpAny_binaryOp_repeat_ref (T := "tuple") (U := "int") (by decide) ⟨_, ho, rfl⟩ (fun s' => typeIs_int s' 0 t) noFill_tuple_mul F.fills_int_mul F.slot_int_rmul repeat_tuple F.slot_int_index.lookup
    (call_meets F.slot_int_rmul (typeIs_int s 0 t) F.entry_int_rmul (F.args_int_rmul_2 _ _) (int_rmul_tuple 0 t l its.toArray n dd sl)
      ⟨ho, rfl, ⟨_, ho, rfl⟩, call_meets F.slot_tuple_mul ⟨_, ho, rfl⟩ F.entry_tuple_mul (F.args_tuple_mul_2 _ _) (tuple_mul0 l its.toArray n dd sl 0 t (by decide) (by rw [hi]; rfl) (by simp)) ⟨ho, ?_⟩⟩)
  refine ⟨.ref s.heap.objs.size, _, I.laid (t' := s.toks) (o := .tup []) (fun b ob q => Heap.get?_push_of_some _ q) (Nat.le_refl _) ?_, rfl, q _ (I.hok.fresh (Nat.le_refl _))⟩
  exact ⟨by simp, [], .nil, IsTup.new _ _⟩
theorem opB (Z : Zt) (X : Cx) (hK : X.K = Z.K) : ∀ o : Bop, OpR X (binaryOp (bop o)) (rB Z o) := by
  intro o pins s σ H x y v u Q I rx ry h
  obtain ⟨m, S, a, b, P, R, ra, rb, h, k⟩ := h
  have ea : ∀ {l xs}, SqT Z.K H l xs → SqT X.K H l xs := fun h => by rw [hK]; exact h
  cases o with
  | add =>
    cases a <;> cases b <;> first | exact False.elim h | skip
    · simp only [RV] at ra rb
      exact op_add pins s σ H x y v u Q I rx ry ⟨_, _, ra, rb, k.int R h⟩
    · simp only [RV] at ra rb
      exact op_add_str pins s σ H x y v u Q I rx ry ⟨_, _, ra, rb, by rw [sz]; exact h.1, k.str R h.2⟩
    · rename_i l1 l2
      obtain ⟨h1, h2⟩ := h
      simp only [RV] at ra rb
      obtain ⟨a, xs, rfl, ha, r1⟩ := ra
      obtain ⟨b, ys, rfl, hb, r2⟩ := rb
      refine op_catA pins s σ H _ _ v u Q I rx ry ⟨a, b, xs, ys, rfl, rfl, ea ha, ea hb, by rw [sz, ← r1.len, ← r2.len]; exact h1, fun e => ?_, fun _ e => ?_, fun _ _ p hp => ?_⟩
      · subst e
        have e : l1 = [] := List.eq_nil_of_length_eq_zero r1.len
        subst e
        refine k.same R (show P (.tup l2) S from h2) ?_
        simp only [RV]
        exact ⟨b, ys, rfl, hb, r2⟩
      · subst e
        have e : l2 = [] := List.eq_nil_of_length_eq_zero r2.len
        subst e
        refine k.same R (v := .tup l1) (by rw [List.append_nil] at h2; exact h2) ?_
        simp only [RV]
        exact ⟨a, xs, rfl, ha, r1⟩
      · exact k.tup R h2 (r1.app r2) hp
    · obtain ⟨l1, l2, g1, g2, h1, h2⟩ := h
      simp only [RV] at ra rb
      obtain ⟨a, ma, rfl⟩ := ra
      obtain ⟨b, mb, rfl⟩ := rb
      obtain ⟨xs, q1, r1⟩ := R.gt g1 ma
      obtain ⟨ys, q2, r2⟩ := R.gt g2 mb
      exact op_cat pins s σ H _ _ v u Q I rx ry ⟨a, b, xs, ys, rfl, rfl, q1, q2, by rw [sz, ← r1.len, ← r2.len]; exact h1, fun p hp => k.alloc R h2 (r1.app r2) hp⟩
  | sub =>
    cases a <;> cases b <;> first | exact False.elim h | skip
    simp only [RV] at ra rb
    exact op_sub pins s σ H x y v u Q I rx ry ⟨_, _, ra, rb, k.int R h⟩
  | mul =>
    cases a <;> cases b <;> first | exact False.elim h | skip
    · simp only [RV] at ra rb
      exact op_mul pins s σ H x y v u Q I rx ry ⟨_, _, ra, rb, mulOk_c h.1, k.int R h.2⟩
    · rename_i l1 i
      obtain ⟨h1, h2, h3, h4, h5⟩ := h
      simp only [RV] at ra rb
      obtain ⟨a, xs, rfl, ha, r1⟩ := ra
      subst rb
      have hx : xs ≠ [] := fun e => h1 (by
        subst e
        exact List.eq_nil_of_length_eq_zero r1.len)
      by_cases h7 : i = 0
      · subst h7
        exact op_rep0 pins s σ H _ _ v u Q I rx ry ⟨a, 0, xs, rfl, rfl, ea ha, hx, rfl, fun p hp => k.tup R h5 (by simpa using RVs.nil) hp⟩
      by_cases h6 : i = 1
      · subst h6
        refine op_rep1 pins s σ H _ _ v u Q I rx ry ⟨a, 1, xs, rfl, rfl, ea ha, hx, rfl, ?_⟩
        refine k.same R (v := .tup l1) (by simpa using h5) ?_
        simp only [RV]
        exact ⟨a, xs, rfl, ha, r1⟩
      · exact op_repT pins s σ H _ _ v u Q I rx ry ⟨a, i, xs, rfl, rfl, ea ha, hx, by omega, h3, by rw [← r1.len]; exact h4, fun p hp => k.tup R h5 (r1.rep _) hp⟩
    · obtain ⟨l1, g1, ⟨h1, h2, h3⟩, h4⟩ := h
      simp only [RV] at ra rb
      obtain ⟨a, ma, rfl⟩ := ra
      subst rb
      obtain ⟨xs, q1, r1⟩ := R.gt g1 ma
      rename_i i
      refine op_rep pins s σ H _ _ v u Q I rx ry ⟨a, i, xs, rfl, rfl, q1, by omega, by omega, ?_, fun p hp => k.alloc R h4 (r1.rep _) hp⟩
      rw [sz, ← r1.len]
      have : l1.length * i.toNat ≤ 1000 * 1000 := Nat.mul_le_mul h3 (by omega)
      omega
  | fdiv =>
    cases a <;> cases b <;> first | exact False.elim h | skip
    simp only [RV] at ra rb
    exact op_fdivW pins s σ H x y v u Q I rx ry ⟨_, _, ra, rb, ⟨h.1.1, bigLog h.1.1 h.1.2⟩, k.int R h.2⟩
  | mod =>
    cases a <;> cases b <;> first | exact False.elim h | skip
    simp only [RV] at ra rb
    exact op_mod pins s σ H x y v u Q I rx ry ⟨_, _, ra, rb, h.1, k.int R h.2⟩
  | pow =>
    cases a <;> cases b <;> first | exact False.elim h | skip
    simp only [RV] at ra rb
    obtain ⟨⟨h1, h2, h3⟩, h4⟩ := h
    refine op_pow pins s σ H x y v u Q I rx ry ⟨_, _, ra, rb, ⟨h1, by omega, ?_⟩, k.int R h4⟩
    exact Nat.lt_trans h3 (by decide)
/-! ### comparisons -/
def cop : Cop → CmpOp
  | .eq => .Eq | .ne => .NotEq | .lt => .Lt | .le => .LtE | .gt => .Gt | .ge => .GtE | .is => .Is | .isnot => .IsNot | .isin => .In | .notin => .NotIn
theorem op_isB {X : Cx} : OpR X (compareOp .Is) (fun x y H Q => ∃ a b, x = .bl a ∧ y = .bl b ∧ Q (.bl (decide (a = b))) H) := by
  intro pins s σ H x y v u Q I rx ry h
  obtain ⟨a, b, rfl, rfl, q⟩ := h
  cases rx
  cases ry
  have e : (Value.bool a == Value.bool b) = decide (a = b) := by cases a <;> cases b <;> rfl
  show wpAny _ _ ((isSame (Value.bool a) (Value.bool b)) >>= fun z => pure (Value.bool z)) _ _ s
  exact wpAny_bind (wpAny_isSame_plain rfl (by rw [e]; exact wpAny_pure (fin_bl I q rfl)))
theorem op_notB {X : Cx} : OpR X (compareOp .IsNot) (fun x y H Q => ∃ a b, x = .bl a ∧ y = .bl b ∧ Q (.bl (!decide (a = b))) H) := by
  intro pins s σ H x y v u Q I rx ry h
  obtain ⟨a, b, rfl, rfl, q⟩ := h
  cases rx
  cases ry
  have e : (Value.bool a == Value.bool b) = decide (a = b) := by cases a <;> cases b <;> rfl
  show wpAny _ _ ((isSame (Value.bool a) (Value.bool b)) >>= fun z => pure (Value.bool (!z))) _ _ s
  exact wpAny_bind (wpAny_isSame_plain rfl (by rw [e]; exact wpAny_pure (fin_bl I q rfl)))
def rC (Z : Zt) (o : Cop) : R2 := fun x y H Q => ∃ m S v u P, Rep Z m S H ∧ RV Z.K H m v x ∧ RV Z.K H m u y ∧ cmpS o v u S P ∧ KV Z m H P Q
mutual
theorem canLay_all : ∀ {ds : List PyData}, (∀ d ∈ ds, d.canLay0 = true) → PyData.canLayAll0 ds = true
  | [], _ => by simp [PyData.canLayAll0]
  | d :: ds, h => by
    simp only [PyData.canLayAll0, Bool.and_eq_true]
    exact ⟨h d List.mem_cons_self, canLay_all fun e he => h e (List.mem_cons_of_mem _ he)⟩
end
theorem depth_all : ∀ {ds : List PyData} {n : Nat}, (∀ d ∈ ds, d.depth ≤ n) → PyData.depthAll ds ≤ n
  | [], _, _ => by simp [PyData.depthAll]
  | d :: ds, n, h => by
    simp only [PyData.depthAll]
    have h1 := h d List.mem_cons_self
    have h2 := depth_all (ds := ds) fun e he => h e (List.mem_cons_of_mem _ he)
    omega
theorem mapM_of {α β : Type} {f : α → Option β} : ∀ {l : List α} {ds : List β}, l.mapM f = some ds → (l = [] ∧ ds = []) ∨ ∃ a r d ds', l = a :: r ∧ ds = d :: ds' ∧ f a = some d ∧ r.mapM f = some ds'
  | [], ds, h => by
    simp at h
    exact .inl ⟨rfl, h⟩
  | a :: r, ds, h => by
    rw [List.mapM_cons] at h
    cases q : f a with
    | none => rw [q] at h; cases h
    | some d =>
      rw [q] at h
      cases q2 : r.mapM f with
      | none => rw [q2] at h; cases h
      | some ds' =>
        rw [q2] at h
        exact .inr ⟨a, r, d, ds', rfl, (Option.some.inj h).symm, q, q2⟩
theorem toD_ok {Z : Zt} {m : List Addr} {S : Sto} {H : Hp} (R : Rep Z m S H) : ∀ (n : Nat) (v : Val) (x : V) (d : PyData), toD n S v = some d → RV Z.K H m v x → Dp Z.K H x d ∧ d.canLay0 = true ∧ d.depth ≤ n := by
  intro n
  induction n with
  | zero => intro v x d h; simp [toD] at h
  | succ n ih =>
    have all : ∀ (l : List Val) (xs : List V) (ds : List PyData), l.mapM (toD n S) = some ds → RVs Z.K H m l xs → DpAll Z.K H xs ds ∧ (∀ d ∈ ds, d.canLay0 = true) ∧ ∀ d ∈ ds, d.depth ≤ n := by
      intro l
      induction l with
      | nil =>
        intro xs ds h r
        simp only [RVs] at r
        rcases mapM_of h with ⟨_, rfl⟩ | ⟨_, _, _, _, e, _⟩
        · subst r; exact ⟨.nil, by simp, by simp⟩
        · cases e
      | cons v l ih2 =>
        intro xs ds h r
        simp only [RVs] at r
        obtain ⟨x, xs', rfl, r1, r2⟩ := r
        rcases mapM_of h with ⟨e, _⟩ | ⟨a, l', d, ds', e, rfl, h1, h2⟩
        · cases e
        · cases e
          obtain ⟨a1, a2, a3⟩ := ih _ _ _ h1 r1
          obtain ⟨b1, b2, b3⟩ := ih2 _ _ h2 r2
          refine ⟨.cons a1 b1, fun e he => ?_, fun e he => ?_⟩
          · rcases List.mem_cons.mp he with rfl | he
            · exact a2
            · exact b2 e he
          · rcases List.mem_cons.mp he with rfl | he
            · exact a3
            · exact b3 e he
    intro v x d h r
    cases v with
    | exn _ _ => simp [toD] at h
    | non => simp [toD] at h; simp only [RV] at r; subst h r; exact ⟨.non, by simp [PyData.canLay0], by simp [PyData.depth]⟩
    | bl b => simp [toD] at h; simp only [RV] at r; subst h r; exact ⟨.bl b, by simp [PyData.canLay0], by simp [PyData.depth]⟩
    | int b => simp [toD] at h; simp only [RV] at r; subst h r; exact ⟨.int b, by simp [PyData.canLay0], by simp [PyData.depth]⟩
    | str z =>
      simp only [RV] at r
      subst r
      simp only [toD] at h
      split at h
      · rename_i hz
        cases h
        exact ⟨.str z, by simpa [PyData.canLay0] using hz, by simp [PyData.depth]⟩
      · cases h
    | tup l =>
      simp only [RV] at r
      obtain ⟨a, xs, rfl, hs, r⟩ := r
      simp only [toD, Option.map_eq_some_iff] at h
      obtain ⟨ds, h1, rfl⟩ := h
      obtain ⟨a1, a2, a3⟩ := all l xs ds h1 r
      refine ⟨.tup hs a1, by simpa [PyData.canLay0] using canLay_all a2, ?_⟩
      have := depth_all a3
      simp only [PyData.depth]
      omega
    | obj k =>
      simp only [RV] at r
      obtain ⟨a, hm, rfl⟩ := r
      simp only [toD] at h
      cases q : rdL S k with
      | none => rw [q] at h; cases h
      | some l =>
        rw [q] at h
        simp only [Option.map_eq_some_iff] at h
        obtain ⟨ds, h1, rfl⟩ := h
        obtain ⟨xs, hs, r⟩ := R.rd q hm
        obtain ⟨a1, a2, a3⟩ := all l xs ds h1 r
        refine ⟨.lst hs a1, by simpa [PyData.canLay0] using canLay_all a2, ?_⟩
        have := depth_all a3
        simp only [PyData.depth]
        omega
theorem toD_shaped {Z : Zt} {m : List Addr} {S : Sto} {H : Hp} (R : Rep Z m S H) {v : Val} {x : V} {d : PyData} (h : toD 60 S v = some d) (r : RV Z.K H m v x) : Dp Z.K H x d ∧ SeqAt.shaped d = true := by
  obtain ⟨h1, h2, h3⟩ := toD_ok R 60 v x d h r
  refine ⟨h1, ?_⟩
  unfold SeqAt.shaped
  rw [h2, decide_eq_true (by omega)]
  rfl
theorem flat_V {K : PySem.W.Frag} {H : Hp} {m : List Addr} {v : Val} {x : V} (f : flat v = true) (r : RV K H m v x) : flatV x = true := by
  cases v <;> first | (simp only [RV] at r; subst r; rfl) | (simp [flat] at f)
theorem feq_V {K : PySem.W.Frag} {H : Hp} {m : List Addr} {v u : Val} {x y : V} (f : flat v = true) (g : flat u = true) (r : RV K H m v x) (q : RV K H m u y) : eqV x y = feq v u := by
  cases v <;> cases u <;> first | (exact absurd f Bool.false_ne_true) | (exact absurd g Bool.false_ne_true) | (simp only [RV] at r q; subst r q; rfl)
theorem flats_V {K : PySem.W.Frag} {H : Hp} {m : List Addr} : ∀ {l : List Val} {xs : List V}, l.all flat = true → RVs K H m l xs → xs.all flatV = true
  | [], xs, _, r => by simp only [RVs] at r; subst r; rfl
  | v :: l, xs, f, r => by
    simp only [RVs] at r
    obtain ⟨x, r', rfl, h1, h2⟩ := r
    rw [List.all_cons, Bool.and_eq_true] at f ⊢
    exact ⟨flat_V f.1 h1, flats_V f.2 h2⟩
theorem inb_V {K : PySem.W.Frag} {H : Hp} {m : List Addr} {v : Val} {x : V} (f : flat v = true) (r : RV K H m v x) : ∀ {l : List Val} {xs : List V}, l.all flat = true → RVs K H m l xs → inV x xs = inb v l
  | [], xs, _, q => by simp only [RVs] at q; subst q; rfl
  | u :: l, xs, g, q => by
    simp only [RVs] at q
    obtain ⟨y, r', rfl, h1, h2⟩ := q
    rw [List.all_cons, Bool.and_eq_true] at g
    have ih := inb_V f r g.2 h2
    unfold inV inb at ih ⊢
    rw [List.any_cons, List.any_cons, ih, feq_V g.1 f h1 r]
theorem inS_V {Z : Zt} {m : List Addr} {S : Sto} {H : Hp} (R : Rep Z m S H) {a b : Val} {x y : V} {F : Bool → Prop} (ra : RV Z.K H m a x) (rb : RV Z.K H m b y) (h : inS a b S F) : (∃ c z, x = .str ⟨#[c]⟩ ∧ y = .str z ∧ F (decide (c ∈ z.cps.toList))) ∨ (∃ p xs, y = .ref p ∧ (SqL Z.K H p xs ∨ SqT Z.K H p xs) ∧ flatV x = true ∧ xs.all flatV = true ∧ F (inV x xs)) ∨ ∃ d ds, Dp Z.K H x d ∧ Dp Z.K H y (.list ds) ∧ d.depth ≤ 60 ∧ SeqAt.shaped d = true ∧ SeqAt.shaped (.list ds) = true ∧ F (ds.any fun z => PyData.eqv z d) := by
  unfold inS at h
  cases b with
  | tup l =>
    obtain ⟨h1, h2, h3⟩ := h
    simp only [RV] at rb
    obtain ⟨p, xs, rfl, hs, r⟩ := rb
    exact .inr (.inl ⟨p, xs, rfl, .inr hs, flat_V h1 ra, flats_V h2 r, by rw [inb_V h1 ra h2 r]; exact h3⟩)
  | obj n =>
    dsimp only at h
    split at h
    · obtain ⟨l, q, h1, h2, h3⟩ := h
      simp only [RV] at rb
      obtain ⟨p, hm, rfl⟩ := rb
      obtain ⟨xs, hs, r⟩ := R.rd q hm
      exact .inr (.inl ⟨p, xs, rfl, .inl hs, flat_V h1 ra, flats_V h2 r, by rw [inb_V h1 ra h2 r]; exact h3⟩)
    · obtain ⟨d, ds, h1, h2, h3⟩ := h
      obtain ⟨a1, a2⟩ := toD_shaped R h1 ra
      obtain ⟨b1, b2⟩ := toD_shaped R h2 rb
      exact .inr (.inr ⟨d, ds, a1, b1, (toD_ok R 60 _ _ d h1 ra).2.2, a2, b2, h3⟩)
  | str z =>
    obtain ⟨c, rfl, h⟩ := h
    simp only [RV] at ra rb
    exact .inl ⟨c, z, ra, rb, h⟩
  | _ => exact h.elim
theorem eqS_V {Z : Zt} {m : List Addr} {S : Sto} {H : Hp} (R : Rep Z m S H) {a b : Val} {x y : V} {F : Bool → Prop} (ra : RV Z.K H m a x) (rb : RV Z.K H m b y) (h : eqS a b S F) :
    (scal x y = true ∧ F (decide (x = y))) ∨ ∃ d e, Dp Z.K H x d ∧ Dp Z.K H y e ∧ SeqAt.shaped d = true ∧ SeqAt.shaped e = true ∧ F (PyData.eqv d e) := by
  have gen : (∃ d e, toD 60 S a = some d ∧ toD 60 S b = some e ∧ F (PyData.eqv d e)) → ∃ d e, Dp Z.K H x d ∧ Dp Z.K H y e ∧ SeqAt.shaped d = true ∧ SeqAt.shaped e = true ∧ F (PyData.eqv d e) := fun ⟨d, e, h1, h2, h3⟩ => by
    obtain ⟨a1, a2⟩ := toD_shaped R h1 ra
    obtain ⟨b1, b2⟩ := toD_shaped R h2 rb
    exact ⟨d, e, a1, b1, a2, b2, h3⟩
  cases a <;> cases b <;> first
    | exact .inr (gen h)
    | (simp only [RV] at ra rb
       subst ra rb
       refine .inl ⟨rfl, ?_⟩
       simp only [V.int.injEq, V.bl.injEq, V.str.injEq]
       exact h)
theorem isNon_V {K : PySem.W.Frag} {H : Hp} {m : List Addr} {v : Val} {x : V} (r : RV K H m v x) : decide (x = .non) = isNon v := by
  cases v <;> simp only [RV] at r <;> first
    | (subst r; rfl)
    | (obtain ⟨_, _, rfl, _⟩ := r; rfl)
    | (obtain ⟨_, _, rfl⟩ := r; rfl)
theorem op_inDu {X : Cx} (hu : X.A.units + 64 < cLine) : OpR X (compareOp .In) (fun x y H Q => ∃ d ds, Dp X.K H x d ∧ Dp X.K H y (.list ds) ∧ d.depth ≤ 60 ∧ SeqAt.shaped d = true ∧ SeqAt.shaped (.list ds) = true ∧ Q (.bl (ds.any fun z => PyData.eqv z d)) H) := by
  intro pins s σ H x y v u Q I rx ry h
  obtain ⟨d, ds, hd, he, hdp, sd, se, q⟩ := h
  obtain ⟨as, r1⟩ := Dp.reads I d x v hd rx
  obtain ⟨bs, r2⟩ := Dp.reads I (.list ds) y u he ry
  exact SeqAt.in_list_reads r2 r1 (SeqAt.canLay_of_shaped se) (SeqAt.canLay_of_shaped sd) (by omega) ⟨.bl _, H, I, rfl, q⟩
theorem op_notInDu {X : Cx} (hu : X.A.units + 64 < cLine) : OpR X (compareOp .NotIn) (fun x y H Q => ∃ d ds, Dp X.K H x d ∧ Dp X.K H y (.list ds) ∧ d.depth ≤ 60 ∧ SeqAt.shaped d = true ∧ SeqAt.shaped (.list ds) = true ∧ Q (.bl (!ds.any fun z => PyData.eqv z d)) H) := by
  intro pins s σ H x y v u Q I rx ry h
  obtain ⟨d, ds, hd, he, hdp, sd, se, q⟩ := h
  obtain ⟨as, r1⟩ := Dp.reads I d x v hd rx
  obtain ⟨bs, r2⟩ := Dp.reads I (.list ds) y u he ry
  exact SeqAt.notIn_list_reads r2 r1 (SeqAt.canLay_of_shaped se) (SeqAt.canLay_of_shaped sd) (by omega) ⟨.bl _, H, I, rfl, q⟩
theorem op_notInT {X : Cx} (hu : X.A.units + 64 < cLine) : OpR X (compareOp .NotIn) (fun x y H Q => ∃ d ds, Dp X.K H x d ∧ Dp X.K H y (.tuple ds) ∧ d.depth ≤ 60 ∧ SeqAt.shaped d = true ∧ SeqAt.shaped (.tuple ds) = true ∧ Q (.bl (!(ds.any fun z => PyData.eqv z d))) H) := by
  intro pins s σ H x y v u Q I rx ry h
  obtain ⟨d, ds, hd, he, hdp, sd, se, q⟩ := h
  obtain ⟨as, r1⟩ := Dp.reads I d x v hd rx
  obtain ⟨bs, r2⟩ := Dp.reads I (.tuple ds) y u he ry
  exact SeqAt.notIn_tuple_reads r2 r1 (SeqAt.canLay_of_shaped se) (SeqAt.canLay_of_shaped sd) (by omega) ⟨.bl _, H, I, rfl, q⟩
theorem opC (Z : Zt) (X : Cx) (hK : X.K = Z.K) (hu : X.A.units + 64 < cLine) : ∀ o : Cop, OpR X (compareOp (cop o)) (rC Z o) := by
  intro o pins s σ H x y v u Q I rx ry h
  obtain ⟨m, S, a, b, P, R, ra, rb, h, k⟩ := h
  cases o with
  | eq =>
    have h : eqS a b S fun k => P (.bl k) S := h
    rcases eqS_V R ra rb h with ⟨h1, h2⟩ | ⟨d, e, h1, h2, h3, h4, h5⟩
    · exact op_eq pins s σ H x y v u Q I rx ry ⟨h1, k.bl R h2⟩
    · exact op_eqD hu pins s σ H x y v u Q I rx ry ⟨d, e, by rw [hK]; exact h1, by rw [hK]; exact h2, h3, h4, k.bl R h5⟩
  | ne =>
    have h : eqS a b S fun k => P (.bl (!k)) S := h
    rcases eqS_V R ra rb h with ⟨h1, h2⟩ | ⟨d, e, h1, h2, h3, h4, h5⟩
    · exact op_ne pins s σ H x y v u Q I rx ry ⟨h1, k.bl R h2⟩
    · exact op_neD hu pins s σ H x y v u Q I rx ry ⟨d, e, by rw [hK]; exact h1, by rw [hK]; exact h2, h3, h4, k.bl R h5⟩
  | lt =>
    cases a <;> cases b <;> first | exact False.elim h | skip
    simp only [RV] at ra rb
    exact op_lt pins s σ H x y v u Q I rx ry ⟨_, _, ra, rb, k.bl R h⟩
  | le =>
    cases a <;> cases b <;> first | exact False.elim h | skip
    simp only [RV] at ra rb
    exact op_le pins s σ H x y v u Q I rx ry ⟨_, _, ra, rb, k.bl R h⟩
  | gt =>
    cases a <;> cases b <;> first | exact False.elim h | skip
    simp only [RV] at ra rb
    exact op_gt pins s σ H x y v u Q I rx ry ⟨_, _, ra, rb, k.bl R h⟩
  | ge =>
    cases a <;> cases b <;> first | exact False.elim h | skip
    simp only [RV] at ra rb
    exact op_ge pins s σ H x y v u Q I rx ry ⟨_, _, ra, rb, k.bl R h⟩
  | is =>
    cases b with
    | non =>
      simp only [RV] at rb
      refine op_isN pins s σ H x y v u Q I rx ry ⟨rb, ?_⟩
      rw [isNon_V ra]
      exact k.bl R h
    | bl c =>
      cases a with
      | bl d =>
        simp only [RV] at ra rb
        exact op_isB pins s σ H x y v u Q I rx ry ⟨d, c, ra, rb, k.bl R h⟩
      | _ => exact False.elim h
    | _ => cases a <;> exact False.elim h
  | isnot =>
    cases b with
    | non =>
      simp only [RV] at rb
      refine op_notN pins s σ H x y v u Q I rx ry ⟨rb, ?_⟩
      rw [isNon_V ra]
      exact k.bl R h
    | bl c =>
      cases a with
      | bl d =>
        simp only [RV] at ra rb
        exact op_notB pins s σ H x y v u Q I rx ry ⟨d, c, ra, rb, k.bl R h⟩
      | _ => exact False.elim h
    | _ => cases a <;> exact False.elim h
  | isin =>
    have h : inS a b S fun k => P (.bl k) S := h
    rcases inS_V R ra rb h with ⟨c, z, e1, e2, h1⟩ | ⟨p, xs, e, h1, h2, h3, h4⟩ | ⟨d, ds, h1, h2, h3, h4, h5, h6⟩
    · exact op_in_sign pins s σ H x y v u Q I rx ry ⟨c, z, e1, e2, k.bl R h1⟩
    rotate_left
    · exact op_inDu hu pins s σ H x y v u Q I rx ry ⟨d, ds, by rw [hK]; exact h1, by rw [hK]; exact h2, h3, h4, h5, k.bl R h6⟩
    exact op_in_seq pins s σ H x y v u Q I rx ry ⟨p, xs, e, by rw [hK]; exact h1, h2, h3, k.bl R h4⟩
  | notin =>
    have h : inS a b S fun k => P (.bl (!k)) S := h
    rcases inS_V R ra rb h with ⟨c, z, e1, e2, h1⟩ | ⟨p, xs, e, h1, h2, h3, h4⟩ | ⟨d, ds, h1, h2, h3, h4, h5, h6⟩
    · exact op_notIn_sign pins s σ H x y v u Q I rx ry ⟨c, z, e1, e2, k.bl R h1⟩
    rotate_left
    · exact op_notInDu hu pins s σ H x y v u Q I rx ry ⟨d, ds, by rw [hK]; exact h1, by rw [hK]; exact h2, h3, h4, h5, k.bl R h6⟩
    exact op_notIn_seq pins s σ H x y v u Q I rx ry ⟨p, xs, e, by rw [hK]; exact h1, h2, h3, k.bl R h4⟩
/-! ### truth -/
theorem truV_V {Z : Zt} {m : List Addr} {S : Sto} {H : Hp} (R : Rep Z m S H) {v : Val} {x : V} {k : Bool} (r : RV Z.K H m v x) (h : truV S v = some k) : TruV Z.K x H k := by
  have emp : ∀ {l : List Val} {xs : List V}, RVs Z.K H m l xs → (!l.isEmpty) = !xs.isEmpty := fun {l xs} r => by
    have := r.len
    cases l <;> cases xs <;> first | rfl | simp at this
  cases v with
  | exn _ _ => simp [truV] at h
  | non => simp only [RV] at r; subst r; simp [truV] at h; subst h; exact rfl
  | bl b => simp only [RV] at r; subst r; simp [truV] at h; subst h; exact rfl
  | int i => simp only [RV] at r; subst r; simp only [truV, Option.some.injEq] at h; subst h; exact rfl
  | str z =>
    simp only [RV] at r
    subst r
    simp only [truV] at h
    split at h
    · rename_i hz
      cases h
      exact ⟨by rw [sz]; exact hz, rfl⟩
    · cases h
  | tup l =>
    simp only [RV] at r
    obtain ⟨a, xs, rfl, hs, r⟩ := r
    simp only [truV, Option.some.injEq] at h
    subst h
    exact .inr (.inl ⟨xs, hs, emp r⟩)
  | obj n =>
    simp only [RV] at r
    obtain ⟨a, hm, rfl⟩ := r
    simp only [truV] at h
    split at h
    · rename_i l e
      cases h
      obtain ⟨xs, h1, h2⟩ := R.ob n _ a e hm
      exact .inl ⟨xs, .inl (.inl h1), emp h2⟩
    · rename_i l e
      cases h
      obtain ⟨o, xs, h1, h2⟩ := R.ob n _ a e hm
      exact .inl ⟨xs, .inl (.inr ⟨o, h1⟩), emp h2⟩
    · cases h
end Mp

set_option Elab.async false
set_option linter.all false
set_option maxRecDepth 100000
set_option autoImplicit false
/-! Mini4: rules that the layer below lacks: t[a:b:c], repr. -/
namespace Mp
open PySem PySem.Spec PyProof.Rows L2
section
variable {prog : Program} {w : World} {A : Around} {E : Value → Shared → Prop} {s : Shared}
theorem adjust_st (lo hi : Option Int) (n : Nat) {st : Int} (hst : 0 < st) : Builtin.Slice.sliceAdjust lo hi st (n : Int) = (((HT.sIx n 0 lo : Nat) : Int), ((HT.sIx n n hi : Nat) : Int)) := by
  have h1 : ¬ (st < 0) := by omega
  unfold Builtin.Slice.sliceAdjust
  simp only [h1, if_false]
  refine Prod.ext ?_ ?_
  · cases lo with
    | none => rfl
    | some v => exact HT.clip_eq v n 0
  · cases hi with
    | none => rfl
    | some v => exact HT.clip_eq v n n
theorem places_st (i j : Nat) {st : Nat} (hst : 0 < st) : Builtin.Slice.slicePlaces (i : Int) (j : Int) (st : Int) = (j - i + (st - 1)) / st := by
  unfold Builtin.Slice.slicePlaces
  have h1 : (st : Int) > 0 := by omega
  simp only [h1, if_true]
  by_cases h : (i : Int) < (j : Int)
  · rw [if_pos h]
    have e : (j : Int) - (i : Int) - 1 = ((j - i - 1 : Nat) : Int) := by omega
    rw [e]
    have e2 : ((j - i - 1 : Nat) : Int) / (st : Int) = ((((j - i - 1) / st : Nat)) : Int) := (Int.natCast_ediv _ _).symm
    rw [e2]
    have e3 : j - i + (st - 1) = (j - i - 1) + st := by omega
    rw [e3, Nat.add_div_right _ hst]
    generalize (j - i - 1) / st = q
    omega
  · rw [if_neg h]
    have e : j - i = 0 := by omega
    rw [e, Nat.zero_add, Nat.div_eq_of_lt (by omega)]
    rfl
theorem sliceApplied_st {sl : Addr} {vl vu : Value} {lo hi : Option Int} {n : Nat} {st : Nat} {t : Tok} {Q : Int × Int × Nat → Shared → Prop} (hst : 0 < st) (hs : s.heap.IsSliceOf sl vl vu (.int (st : Int) t)) (pl : IsPart vl lo) (pu : IsPart vu hi)
    (h : Q (((HT.sIx n 0 lo : Nat) : Int), (st : Int), (HT.sIx n n hi - HT.sIx n 0 lo + (st - 1)) / st) s) : wpAny (model prog w) A (Builtin.Slice.sliceApplied (.ref sl) (pure (n : Int))) Q E s := by
  obtain ⟨os, hos, hcs, hds⟩ := id hs
  unfold Builtin.Slice.sliceApplied Builtin.Slice.sliceFields
  refine wpAny_bind (wpAny_bind (wpAny_field hos hds (x := vl) rfl (wpAny_bind (wpAny_field hos hds (x := vu) rfl (wpAny_bind (wpAny_field hos hds (x := .int (st : Int) t) rfl (wpAny_pure ?_)))))))
  refine wpAny_bind (HT.slicePart_ (.int _ _) ?_)
  show wpAny _ _ (if ((st : Int) == 0) = true then _ else _) _ _ s
  rw [if_neg (by simp; omega)]
  refine wpAny_bind (HT.slicePart_ pl (wpAny_bind (HT.slicePart_ pu (wpAny_bind (wpAny_pure ?_)))))
  show wpAny _ _ (match Builtin.Slice.sliceAdjust lo hi (st : Int) (n : Int) with | (lo, hi) => pure (lo, (st : Int), Builtin.Slice.slicePlaces lo hi (st : Int))) _ _ s
  rw [adjust_st lo hi n (by omega)]
  show wpAny _ _ (pure (((HT.sIx n 0 lo : Nat) : Int), (st : Int), Builtin.Slice.slicePlaces ((HT.sIx n 0 lo : Nat) : Int) ((HT.sIx n n hi : Nat) : Int) (st : Int))) _ _ s
  rw [places_st _ _ hst]
  exact wpAny_pure h
theorem pick_st (xs : Array Value) (i k st : Nat) : ((List.range k).filterMap fun (m : Nat) => xs[((i : Int) + (m : Int) * (st : Int)).toNat]?).toArray = ((List.range k).filterMap fun m => xs.toList[i + m * st]?).toArray := by
  congr 1
  have e : (fun (m : Nat) => xs[((i : Int) + (m : Int) * (st : Int)).toNat]?) = fun m => xs.toList[i + m * st]? := by
    funext m
    have : ((i : Int) + (m : Int) * (st : Int)).toNat = i + m * st := by
      have h : (m : Int) * (st : Int) = ((m * st : Nat) : Int) := (Int.natCast_mul m st).symm
      rw [h]
      omega
    rw [this, Array.getElem?_toList]
  rw [e]
theorem getItem_tuple_st {t sl : Addr} {items : Array Value} {vl vu : Value} {lo hi : Option Int} {st : Nat} {tk : Tok} {Q : Value → Shared → Prop} (hst : 0 < st) (ht : IsTup s.heap t items) (hs : s.heap.IsSliceOf sl vl vu (.int (st : Int) tk)) (pl : IsPart vl lo) (pu : IsPart vu hi)
    (h1 : cutSt items.toList lo hi st = items.toList → Q (.ref t) s)
    (h : Q (.ref s.heap.objs.size) { s with heap := s.heap.push { cls := .type "tuple", data := .seq (cutSt items.toList lo hi st).toArray } })
    (hsz : (cutSt items.toList lo hi st).length ≤ sizeLine) : wpAny (model prog w) A (getItem (.ref t) (.ref sl)) Q E s := by
  obtain ⟨os, hos, hcs, hds⟩ := id hs
  have hTs : s.TypeIs (.ref sl) "slice" := ⟨os, hos, hcs⟩
  unfold getItem
  try with_reducible refine wpAny_holding ?_
  first | refine wpAny_bind (wpAny_pure ?_) | skip
  refine wpAny_bind (wpAny_sequenceKey ht.typeIs (by decide) ?_)
  refine wpAny_bind (wpAny_callSpecial?_slot (name := Str.ofString "__getitem__") ht.typeIs PyProof.Rows.slot_tuple_getitem
    (wpAny_call_entry PyProof.Rows.slot_tuple_getitem ht.typeIs entry_tuple_getitem ?_ (args_tuple_getitem _ _)))
  show wpAny _ _ (Builtin.Tuple.tupleItemsOf (.ref t) >>= _) _ _ s
  refine wpAny_bind (tupleItemsOf_ ht ?_)
  refine wpAny_bind (wpAny_typeOf hTs ?_)
  rw [if_pos (by decide)]
  refine wpAny_bind (sliceApplied_st hst hs pl pu ?_)
  generalize hk : (HT.sIx items.size items.size hi - HT.sIx items.size 0 lo + (st - 1)) / st = k
  have hcut : cutSt items.toList lo hi st = (List.range k).filterMap fun m => items.toList[HT.sIx items.size 0 lo + m * st]? := by
    unfold cutSt
    rw [Array.length_toList, hk]
  have htake : sizeOk (.seq ((List.range k).filterMap fun m => items.toList[HT.sIx items.size 0 lo + m * st]?).toArray) := by
    show ((List.range k).filterMap fun m => items.toList[HT.sIx items.size 0 lo + m * st]?).toArray.size ≤ sizeLine
    rw [List.size_toArray, ← hcut]
    exact hsz
  rw [hcut] at h
  show wpAny _ _ (if (((HT.sIx items.size 0 lo : Nat) : Int) == 0 && (st : Int) == 1 && k == items.size) = true then _ else _) _ _ s
  by_cases hc : (((HT.sIx items.size 0 lo : Nat) : Int) == 0 && (st : Int) == 1 && k == items.size) = true
  · rw [if_pos hc]
    refine wpAny_bind ?_
    show wpAny _ _ (typeOf (.ref t) >>= fun T => pure (T == .type "tuple")) _ _ s
    refine wpAny_bind (wpAny_typeOf ht.typeIs (wpAny_pure ?_))
    have whole : cutSt items.toList lo hi st = items.toList := by
      rw [Bool.and_eq_true, Bool.and_eq_true] at hc
      have q1 : ((HT.sIx items.size 0 lo : Nat) : Int) = 0 := eq_of_beq hc.1.1
      have q2 : (st : Int) = 1 := eq_of_beq hc.1.2
      have q3 : k = items.size := eq_of_beq hc.2
      have q4 : HT.sIx items.size 0 lo = 0 := by omega
      have q5 : st = 1 := by omega
      rw [hcut, q4, q5, q3]
      apply List.ext_getElem?
      intro n
      have e : (fun m => items.toList[0 + m * 1]?) = fun m => items.toList[m]? := by
        funext m
        rw [Nat.zero_add, Nat.mul_one]
      rw [e, ← Array.length_toList]
      have all : ∀ (l : List Value), (List.range l.length).filterMap (fun m => l[m]?) = l := by
        intro l
        induction l with
        | nil => rfl
        | cons a l ih =>
          rw [List.length_cons, List.range_succ_eq_map, List.filterMap_cons, List.filterMap_map]
          show a :: List.filterMap (fun m => l[m]?) (List.range l.length) = a :: l
          rw [ih]
      rw [all]
    first
      | rw [if_pos (by decide)]
      | simp only [beq_self_eq_true, if_true]
    first
      | exact wpAny_bind (wpAny_rule (wpAny_pure ⟨_, rfl, wpAny_pure (h1 whole)⟩))
      | exact wpAny_bind (wpAny_rule (wpAny_bind (wpAny_pure (wpAny_pure ⟨_, rfl, wpAny_pure (h1 whole)⟩))))
  · rw [if_neg hc, pick_st]
    first
      | exact wpAny_bind (m := Builtin.Tuple.tupleExact _) (wpAny_newObj_type (wpAny_pure ⟨_, rfl, wpAny_pure h⟩) htake)
      | exact wpAny_bind (m := Builtin.Tuple.tupleExact _) (wpAny_newObj_type (wpAny_bind (wpAny_pure (wpAny_pure ⟨_, rfl, wpAny_pure h⟩))) htake)
      | exact wpAny_bind (wpAny_bind (m := Builtin.Tuple.tupleExact _) (wpAny_newObj_type (wpAny_pure (wpAny_pure ⟨_, rfl, wpAny_pure h⟩)) htake))
      | exact wpAny_bind (wpAny_bind (m := Builtin.Tuple.tupleExact _) (wpAny_newObj_type (wpAny_pure ⟨_, rfl, wpAny_pure h⟩) htake))
theorem rev_pick (l : List Value) : ((List.range l.length).filterMap fun (m : Nat) => l.toArray[(((l.length : Int) - 1) + (m : Int) * (-1)).toNat]?) = l.reverse := by
  have e : ∀ m, m < l.length → l.toArray[(((l.length : Int) - 1) + (m : Int) * (-1)).toNat]? = l.reverse[m]? := by
    intro m hm
    rw [List.getElem?_reverse hm, List.getElem?_toArray]
    congr 1
    omega
  have all : ∀ (l : List Value), (List.range l.length).filterMap (fun m => l[m]?) = l := by
    intro l
    induction l with
    | nil => rfl
    | cons a l ih =>
      rw [List.length_cons, List.range_succ_eq_map, List.filterMap_cons, List.filterMap_map]
      show a :: List.filterMap (fun m => l[m]?) (List.range l.length) = a :: l
      rw [ih]
  have cg : ∀ (f g : Nat → Option Value) (ns : List Nat), (∀ m ∈ ns, f m = g m) → ns.filterMap f = ns.filterMap g := by
    intro f g ns
    induction ns with
    | nil => exact fun _ => rfl
    | cons n ns ih =>
      intro h
      rw [List.filterMap_cons, List.filterMap_cons, h n List.mem_cons_self, ih fun m hm => h m (List.mem_cons_of_mem _ hm)]
  rw [cg _ _ _ fun m hm => e m (List.mem_range.mp hm)]
  have := all l.reverse
  rw [List.length_reverse] at this
  exact this
theorem sliceApplied_rev {sl : Addr} {n : Nat} {t : Tok} {Q : Int × Int × Nat → Shared → Prop} (hs : s.heap.IsSliceOf sl .none .none (.int (-1) t))
    (h : Q ((n : Int) - 1, -1, n) s) : wpAny (model prog w) A (Builtin.Slice.sliceApplied (.ref sl) (pure (n : Int))) Q E s := by
  obtain ⟨os, hos, hcs, hds⟩ := id hs
  unfold Builtin.Slice.sliceApplied Builtin.Slice.sliceFields
  refine wpAny_bind (wpAny_bind (wpAny_field hos hds (x := .none) rfl (wpAny_bind (wpAny_field hos hds (x := .none) rfl (wpAny_bind (wpAny_field hos hds (x := .int (-1) t) rfl (wpAny_pure ?_)))))))
  refine wpAny_bind (HT.slicePart_ (.int _ _) ?_)
  show wpAny _ _ (if ((-1 : Int) == 0) = true then _ else _) _ _ s
  rw [if_neg (by decide)]
  refine wpAny_bind (HT.slicePart_ .none (wpAny_bind (HT.slicePart_ .none (wpAny_bind (wpAny_pure ?_)))))
  have e1 : Builtin.Slice.sliceAdjust none none (-1) (n : Int) = ((n : Int) - 1, -1) := rfl
  have e2 : Builtin.Slice.slicePlaces ((n : Int) - 1) (-1) (-1) = n := by
    unfold Builtin.Slice.slicePlaces
    by_cases h : n = 0
    · subst h; rfl
    · have h1 : ¬ ((-1 : Int) > 0) := by decide
      have h2 : ((n : Int) - 1) > -1 := by omega
      simp only [h1, h2, if_false, if_true]
      have h3 : ((n : Int) - 1 - -1 - 1) / - -1 = n - 1 := by
        rw [show (- -1 : Int) = 1 from rfl, Int.ediv_one]
        omega
      rw [h3]
      omega
  show wpAny _ _ (match Builtin.Slice.sliceAdjust none none (-1) (n : Int) with | (lo, hi) => pure (lo, (-1 : Int), Builtin.Slice.slicePlaces lo hi (-1))) _ _ s
  rw [e1]
  show wpAny _ _ (pure ((n : Int) - 1, (-1 : Int), Builtin.Slice.slicePlaces ((n : Int) - 1) (-1) (-1))) _ _ s
  rw [e2]
  exact wpAny_pure h
theorem getItem_tuple_rev {t sl : Addr} {its : List Value} {tk : Tok} {Q : Value → Shared → Prop} (ht : IsTup s.heap t its.toArray) (hs : s.heap.IsSliceOf sl .none .none (.int (-1) tk))
    (h : Q (.ref s.heap.objs.size) { s with heap := s.heap.push { cls := .type "tuple", data := .seq its.reverse.toArray } })
    (hsz : its.length ≤ sizeLine) : wpAny (model prog w) A (getItem (.ref t) (.ref sl)) Q E s := by
  obtain ⟨os, hos, hcs, hds⟩ := id hs
  have hTs : s.TypeIs (.ref sl) "slice" := ⟨os, hos, hcs⟩
  unfold getItem
  try with_reducible refine wpAny_holding ?_
  first | refine wpAny_bind (wpAny_pure ?_) | skip
  refine wpAny_bind (wpAny_sequenceKey ht.typeIs (by decide) ?_)
  refine wpAny_bind (wpAny_callSpecial?_slot (name := Str.ofString "__getitem__") ht.typeIs PyProof.Rows.slot_tuple_getitem
    (wpAny_call_entry PyProof.Rows.slot_tuple_getitem ht.typeIs entry_tuple_getitem ?_ (args_tuple_getitem _ _)))
  show wpAny _ _ (Builtin.Tuple.tupleItemsOf (.ref t) >>= _) _ _ s
  refine wpAny_bind (tupleItemsOf_ ht ?_)
  refine wpAny_bind (wpAny_typeOf hTs ?_)
  rw [if_pos (by decide)]
  refine wpAny_bind (sliceApplied_rev hs ?_)
  have hsz2 : sizeOk (.seq its.reverse.toArray) := by
    show its.reverse.toArray.size ≤ sizeLine
    rw [List.size_toArray, List.length_reverse]
    exact hsz
  show wpAny _ _ (if (((its.toArray.size : Int) - 1 == 0) && (-1 : Int) == 1 && its.toArray.size == its.toArray.size) = true then _ else _) _ _ s
  rw [if_neg (by rw [show ((-1 : Int) == 1) = false from rfl, Bool.and_false, Bool.false_and]; exact Bool.false_ne_true)]
  rw [List.size_toArray, rev_pick]
  first
    | exact wpAny_bind (m := Builtin.Tuple.tupleExact _) (wpAny_newObj_type (wpAny_pure ⟨_, rfl, wpAny_pure h⟩) hsz2)
    | exact wpAny_bind (m := Builtin.Tuple.tupleExact _) (wpAny_newObj_type (wpAny_bind (wpAny_pure (wpAny_pure ⟨_, rfl, wpAny_pure h⟩))) hsz2)
    | exact wpAny_bind (wpAny_bind (m := Builtin.Tuple.tupleExact _) (wpAny_newObj_type (wpAny_pure (wpAny_pure ⟨_, rfl, wpAny_pure h⟩)) hsz2))
    | exact wpAny_bind (wpAny_bind (m := Builtin.Tuple.tupleExact _) (wpAny_newObj_type (wpAny_pure ⟨_, rfl, wpAny_pure h⟩) hsz2))
end
end Mp
namespace Mp
open PySem PySem.Spec PyProof.Rows L2
/-! ### a[lo:hi:st] -/
section
variable {X : Cx} {e : Expr} {te : TE} {lo hi : Option Expr} {st : Expr} {tl th ts : TO} {pos p2 : Pos}
/-- what a slice with a step is, by values -/
def SlR3 (X : Cx) (r : V → Option Int → Option Int → Option Int → Hp → VK → Prop) : Prop :=
  ∀ (pins : List (Addr × PySem.Obj)) (s : Shared) (σ : L2.St) (H : Hp) (x : V) (v vl vu vs : Value) (lo hi st : Option Int) (sl : Addr) (Q : VK), Inv X pins σ H s → RelV x v → s.heap.IsSliceOf sl vl vu vs → IsPart vl lo → IsPart vu hi → IsPart vs st → r x lo hi st H Q →
    ∃ T id, typeLookup (.type T) "__getitem__" = pure (some (.builtin id)) ∧ s.TypeIs v T ∧ wpAny (model X.prog X.w) X.A (getItem v (.ref sl)) (EP X pins σ Q) X.xe s
def tSl3 (r : V → Option Int → Option Int → Option Int → Hp → VK → Prop) (te : TE) (tl th ts : TO) : TE := fun σ H Q => te σ H fun x H1 => tl σ H1 fun l H2 => th σ H2 fun u H3 => ts σ H3 fun t H4 => r x l u t H4 Q
theorem pe_slice3 {r : V → Option Int → Option Int → Option Int → Hp → VK → Prop} (hr : SlR3 X r) (he : PE X e te) (hl : PO X lo tl) (hu : PO X hi th) (hs : PO X (some st) ts) : PE X (.Subscript e (.Slice lo hi (some st) p2) pos) (tSl3 r te tl th ts) := by
  refine ⟨fun pins s σ H Q I h => ?_⟩
  refine Subscript_ (thn (he.run pins s σ H _ I h) fun v s1 ⟨x, H1, I1, r1, q1⟩ => ?_)
  refine wpAny_Slice (thn (hl.run pins s1 σ H1 _ I1 q1) fun vl s2 ⟨l, H2, I2, pl, q2⟩ => thn (hu.run pins s2 σ H2 _ I2 q2) fun vu s3 ⟨u, H3, I3, pu, q3⟩ => thn (hs.run pins s3 σ H3 _ I3 q3) fun vs s4 ⟨t, H4, I4, ps, q4⟩ => ?_)
  have I5 : Inv X pins σ H4 { s4 with heap := s4.heap.push { cls := .type "slice", data := .fields #[vl, vu, vs] } } := I4.kept (t' := s4.toks) fun b ob q => Heap.get?_push_of_some _ q
  obtain ⟨T, id, hT, ht, hg⟩ := hr pins _ σ H4 x v vl vu vs l u t s4.heap.objs.size Q I5 r1 (Heap.IsSliceOf.new ..) pl pu ps q4
  exact tail_any (ops := [v, .ref s4.heap.objs.size]) ht hT hg (by with_unfolding_all rfl)
end
/-! ### e[::-1] of a tuple -/
theorem pe_revT {X : Cx} {e : Expr} {te : TE} {k : Nat} {p1 p2 p3 pos : Pos} (he : PE X e te) : PE X (.Subscript e (.Slice none none (some (.UnaryOp .USub (.Constant (.int 1) k p1) p2)) p3) pos) (fun σ H Q => te σ H fun x H1 => ∃ a xs, x = .ref a ∧ SqT X.K H1 a xs ∧ ∀ p, H1 p = none → Q (.ref p) (upd H1 p (.tup xs.reverse))) := by
  refine ⟨fun pins s σ H Q I h => ?_⟩
  refine Subscript_ (thn (he.run pins s σ H _ I h) fun v s1 ⟨x, H1, I1, r1, q1⟩ => ?_)
  obtain ⟨a, xs, ex, hx, q⟩ := q1
  subst ex
  cases r1
  have hst : PO X (some (.UnaryOp .USub (.Constant (.int 1) k p1) p2)) (tPart (tUn (rU fun i => .int (-i)) (tC (.int 1)))) := po_some (pe_un un_neg pe_int)
  refine wpAny_Slice (thn (po_none.run pins s1 σ H1 (fun o H2 => o = none ∧ H2 = H1) I1 ⟨rfl, rfl⟩) fun vl s2 ⟨l, H2, I2, pl, el, e2⟩ => ?_)
  subst el e2
  refine thn (po_none.run pins s2 σ H2 (fun o H3 => o = none ∧ H3 = H2) I2 ⟨rfl, rfl⟩) fun vu s3 ⟨u, H3, I3, pu, eu, e3⟩ => ?_
  subst eu e3
  refine thn (hst.run pins s3 σ H3 (fun o H4 => o = some (-1) ∧ H4 = H3) I3 ⟨1, rfl, -1, rfl, rfl, rfl⟩) fun vs s4 ⟨o, H4, I4, ps, eo, e4⟩ => ?_
  subst eo e4
  cases pl
  cases pu
  cases ps with
  | int _ tk =>
  have I5 : Inv X pins σ H4 { s4 with heap := s4.heap.push { cls := .type "slice", data := .fields #[.none, .none, .int (-1) tk] } } := I4.kept (t' := s4.toks) fun b ob q => Heap.get?_push_of_some _ q
  obtain ⟨its, r, ht, hz⟩ := I5.tuple hx
  have hlen := r.length
  show wpAny (model X.prog X.w) X.A (subscriptTail e (.Slice none none (some (.UnaryOp .USub (.Constant (.int 1) k p1) p2)) p3) (.ref a) (.ref s4.heap.objs.size)) (EP X pins σ Q) X.xe { s4 with heap := s4.heap.push { cls := .type "slice", data := .fields #[.none, .none, .int (-1) tk] } }
  refine tail_any (ops := [.ref a, .ref s4.heap.objs.size]) ht.typeIs PyProof.Rows.slot_tuple_getitem.lookup ?_ (by with_unfolding_all rfl)
  refine getItem_tuple_rev ht (Heap.IsSliceOf.new _ .none .none (.int (-1) tk)) ?_ (by rw [← hlen]; exact hz)
  refine ⟨.ref _, _, I5.laid (t' := s4.toks) (o := .tup xs.reverse) (fun b ob q => Heap.get?_push_of_some _ q) (Nat.le_refl _) ?_, rfl, q _ (I5.hok.fresh (Nat.le_refl _))⟩
  exact ⟨by rw [List.length_reverse]; exact hz, _, r.reverse, IsTup.new _ _⟩
/-- the reading of a slice with a step, of a tuple -/
def rSt (Z : Zt) : V → Option Int → Option Int → Option Int → Hp → VK → Prop := fun x lo hi st H Q => ∃ m S v P, Rep Z m S H ∧ RV Z.K H m v x ∧ (∃ k, st = some k) ∧ slS v lo hi st S P ∧ KV Z m H P Q
theorem vals_filt {xs : List V} {us : List Value} (h : Vals xs us) (f : Nat → Nat) : ∀ ks : List Nat, Vals (ks.filterMap fun k => xs[f k]?) (ks.filterMap fun k => us[f k]?)
  | [] => .nil
  | k :: ks => by
    rw [List.filterMap_cons, List.filterMap_cons]
    cases q : xs[f k]? with
    | none =>
      rw [Vals.none_of h q]
      exact vals_filt h f ks
    | some v =>
      obtain ⟨x, e, r⟩ := h.get q
      rw [e]
      exact .cons r (vals_filt h f ks)
theorem cutSt_len {α : Type} (l : List α) (lo hi : Option Int) {st : Nat} (hst : 0 < st) : (cutSt l lo hi st).length ≤ l.length := by
  unfold cutSt
  have h1 : HT.sIx l.length l.length hi ≤ l.length := HT.sIx_le _ _ (Nat.le_refl _) hi
  generalize HT.sIx l.length l.length hi = b at h1 ⊢
  generalize HT.sIx l.length 0 lo = a
  refine Nat.le_trans (List.length_filterMap_le _ _) ?_
  rw [List.length_range]
  rw [Nat.div_le_iff_le_mul_add_pred hst]
  have h2 : l.length ≤ st * l.length := Nat.le_mul_of_pos_left _ hst
  omega
theorem sl_st (Z : Zt) (X : Cx) (hK : X.K = Z.K) : SlR3 X (rSt Z) := by
  intro pins s σ H x v vl vu vs lo hi st sl Q I rx hs pl pu ps h
  obtain ⟨m, S, a, P, R, ra, ⟨k, rfl⟩, h, kv⟩ := h
  cases a with
  | tup l =>
    obtain ⟨⟨h1, h2⟩, h3⟩ := h
    simp only [RV] at ra
    obtain ⟨t, xs, rfl, ht, r1⟩ := ra
    cases rx
    cases ps with
    | int k tk =>
    obtain ⟨its, r, ht2, hz⟩ := I.tuple (show SqT X.K H t xs by rw [hK]; exact ht)
    obtain ⟨st, rfl⟩ : ∃ n : Nat, k = (n : Int) := ⟨k.toNat, by omega⟩
    have hst : 0 < st := by omega
    have e3 : ((st : Nat) : Int).toNat = st := by omega
    rw [e3] at h3
    have hlen : its.toArray.size = xs.length := by rw [List.size_toArray]; exact r.length.symm
    have hl2 : l.length = its.length := r1.len.trans r.length
    have rc : RVs Z.K H m (cutSt l lo hi st) (cutSt xs lo hi st) := by
      unfold cutSt
      rw [← r1.len]
      exact r1.filt _ _
    have vc : Vals (cutSt xs lo hi st) (cutSt its lo hi st) := by
      unfold cutSt
      rw [← r.length]
      exact vals_filt r _ _
    refine ⟨"tuple", _, PyProof.Rows.slot_tuple_getitem.lookup, ht2.typeIs, ?_⟩
    refine getItem_tuple_st hst ht2 hs pl pu (fun e => ?_) ?_ ?_
    · refine ⟨.ref t, H, I, rfl, kv.same R (v := .tup (cutSt l lo hi st)) h3 ?_⟩
      simp only [RV]
      have e2 : cutSt xs lo hi st = xs := (vc.inj (by
        have e : cutSt its lo hi st = its := e
        rw [e]
        exact r)).symm ▸ rfl
      refine ⟨t, xs, rfl, ht, ?_⟩
      rw [← e2]
      exact rc
    · refine ⟨.ref s.heap.objs.size, _, I.laid (t' := s.toks) (o := .tup (cutSt xs lo hi st)) (fun b ob q => Heap.get?_push_of_some _ q) (Nat.le_refl _) ?_, rfl, kv.tup R h3 rc (I.hok.fresh (Nat.le_refl _))⟩
      exact ⟨Nat.le_trans (cutSt_len xs lo hi hst) hz, _, vc, IsTup.new _ _⟩
    · refine Nat.le_trans (cutSt_len _ lo hi hst) ?_
      show its.length ≤ sizeLine
      rw [← r.length]
      exact hz
  | _ => exact h.elim
/-! ### repr -/
theorem call_repr {Z : Zt} {X : Cx} (hK : X.K = Z.K) (hg : X.A.guards = some []) (hu : X.A.units + 64 < cLine) : CallR X (.builtin "repr") (fun xs H Q => ∃ x d, xs = [x] ∧ Dp Z.K H x d ∧ d.depth ≤ 60 ∧ d.canLay0 = true ∧ d.showable = true ∧ d.shown.length ≤ 16777216 ∧ Q (.str d.shown) H) := by
  intro pins s σ H vs us Q I r h
  obtain ⟨x, d, rfl, hd, hdep, hcl, hsh, hlen, q⟩ := h
  obtain ⟨u, rfl, rx⟩ := vals1 r
  have hlen2 : d.shown.length ≤ sizeLine := by rw [sz]; exact hlen
  obtain ⟨as, rd⟩ := Dp.reads I d x u (by rw [hK]; exact hd) rx
  have fin : ∀ (h' : Heap) (u : Tok) (tk : Nat), (∀ b o, s.heap.get? b = some o → h'.get? b = some o) → EP X pins σ Q (.str d.shown u) { s with heap := h', toks := tk } := fun h' u tk k => ⟨.str d.shown, H, I.kept k, ⟨u, rfl⟩, q⟩
  cases hd with
  | non => cases rx; simp only [PyData.shown] at fin; exact PySem.P.repr_of_none (fin s.heap _ _ fun _ _ e => e)
  | bl b => cases rx; simp only [PyData.shown] at fin; exact PySem.P.repr_of_bool (fin s.heap _ _ fun _ _ e => e)
  | int i =>
    obtain ⟨t, rfl⟩ := rx
    simp only [PyData.shown] at fin
    exact PySem.P.repr_of_int (by simpa [PyData.showable] using hsh) (fin s.heap _ _ fun _ _ e => e)
  | str z =>
    obtain ⟨t, rfl⟩ := rx
    simp only [PyData.shown] at fin hlen2
    exact PySem.P.repr_of_str (fin s.heap _ _ fun _ _ e => e) hlen2
  | lst _ _ =>
    cases rx
    exact repr_of_reads' rd hsh (PyData.noDict_hsm (PyData.hasDict_of_canLay _ hcl)) hg (by omega) (fun _ _ e => e) (fun h' u tk k => fin h' u tk k) hlen2
  | tup _ _ =>
    cases rx
    exact repr_of_reads' rd hsh (PyData.noDict_hsm (PyData.hasDict_of_canLay _ hcl)) hg (by omega) (fun _ _ e => e) (fun h' u tk k => fin h' u tk k) hlen2
end Mp

set_option Elab.async false
set_option linter.all false
set_option maxRecDepth 100000
set_option autoImplicit false
/-! Mini5: a def's promise where nothing is being shown (no repr runs around it), its call, its body; and the state's relation. -/
namespace Mp
open PySem PySem.Spec PyProof.Rows L2

/-- a def's promise, asked for where no repr runs around the call -/
structure FnG (P : Program) (w : World) (K : PySem.W.Frag) (mg : Str → Option Value) (base : Heap) (gd : Bool) (k : Nat) (f : Addr) (fd : FuncData) (ps : List Str) (sp : Sp) : Prop where
  len : ∀ vs H Q E, sp vs H Q E → vs.length = ps.length
  run : ∀ (A : Around) (outer : List PySem.Env) (s : Shared) (H : Hp) (args : Args) (us : List Value) (vs : List V) (Q : VK) (E : XK), Room k A → (gd = true → A.guards = some []) → Env0 P w K mg base A outer s H → BindsTo s fd args (ps.zip us) → Vals vs us → sp vs H Q E →
    codeAny (model P w) A (.call (.ref f) args) (CR (L2.CX P w) outer P w H s Q E) s
section
variable {P : Program} {w : World} {K : PySem.W.Frag} {mg : Str → Option Value} {base : Heap}
theorem FnG.mono {gd : Bool} {j k : Nat} {f : Addr} {fd : FuncData} {ps : List Str} {sp : Sp} (F : FnG P w K mg base gd j f fd ps sp) (h : j ≤ k) : FnG P w K mg base gd k f fd ps sp :=
  ⟨F.len, fun A outer s H args us vs Q E hr => F.run A outer s H args us vs Q E (hr.mono h)⟩
/-- by its body -/
theorem fnG_of {gd : Bool} {k : Nat} {f : Addr} {name qual : Str} {params : Arguments} {body : List Stmt} {scope : Scope} {dV kV doc pm cdv ct oc : Value} {an od : Option Addr} {osl : Array (Option Value)} {N ps : List Str} {sp : Sp}
    (lk : K.lookup f = some ⟨oc, od, .func (PySem.W.fnOf name qual params body scope dV kV doc pm an cdv ct), osl⟩) (hcd : PySem.W.codeIn K cdv qual = true) (S : FnScope N ps scope) (len : ∀ vs H Q E, sp vs H Q E → vs.length = ps.length)
    (hbody : ∀ (A : Around) (outer : List PySem.Env) (s : Shared) (H : Hp) (vs : List V) (Q : VK) (E : XK), Room k (A.deeper (envOfC qual scope s.heap.objs.size f cdv)) → (gd = true → A.guards = some []) → sp vs H Q E →
      ∃ t, PSs (cxOf (L2.CX P w) P w K mg base N qual scope f cdv A outer s H E) body t ∧ t { nx := fun _ H' => Q .non H', rt := Q } (L2.start N vs) H) :
    FnG P w K mg base gd (k + 1) f (PySem.W.fnOf name qual params body scope dV kV doc pm an cdv ct) ps sp where
  len := len
  run := by
    intro A outer s H args us vs Q E room hg e0 bt rv hsp
    have n := len _ _ _ _ hsp
    exact LamX.run_ofS (CX := L2.CX P w) lk hcd S room e0 bt rv n fun room' => hbody A outer s H vs Q E room' hg hsp
end
/-- the callee runs -/
theorem runG {X : Cx} {gd : Bool} {k : Nat} {f : Addr} {fd : FuncData} {ps : List Str} {sp : Sp} {E : L2.St → XK} (F : FnG X.prog X.w X.K X.mg X.base gd k f fd ps sp) (hr : Room k X.A) (hgd : gd = true → X.A.guards = some []) (hb : Binds X.K fd ps []) {pins : List (Addr × PySem.Obj)} {σ : L2.St} (hx : PassesAt (L2.CX X.prog X.w) X σ (E σ))
    {H : Hp} {s : Shared} {Q : VK} {us : List Value} {vs : List V} (I : Inv X pins σ H s) (r : Vals vs us) (h : sp vs H Q (E σ)) : wpAny (model X.prog X.w) X.A (call (.ref f) us) (EP X pins σ Q) X.xe s := by
  have hl : us.length = ps.length := by rw [← r.length]; exact F.len _ _ _ _ h
  have b := hb s us I.kIn (by rw [List.append_nil]; exact hl)
  rw [List.append_nil] at b
  refine wpAny_call (codeAny_mono (F.run X.A X.stack s H ⟨us, []⟩ us vs Q (E σ) hr hgd I.env0 b r h) fun r s' hq => ?_)
  match r, hq with
  | .error e, hq => exact hx pins H s e s' I hq
  | .ok (.ret u), hq => exact I.after hq
  | .ok .next, hq => exact hq.elim
  | .ok .brk, hq => exact hq.elim
  | .ok .cont, hq => exact hq.elim
/-- f(e, ..) -/
theorem callG {X : Cx} {gd : Bool} {k : Nat} {f : Addr} {fd : FuncData} {ps : List Str} {sp : Sp} {E : L2.St → XK} {x : Str} {p pos : Pos} {e : Expr} {es : List Expr} {t : TA} (F : FnG X.prog X.w X.K X.mg X.base gd k f fd ps sp) (hr : Room k X.A) (hgd : gd = true → X.A.guards = some []) (hg : Gl X x) (hm : X.mg x = some (.ref f)) (hk : PySem.W.keepIn X.K (.ref f) = true)
    (hb : Binds X.K fd ps []) (hx : ∀ σ, PassesAt (L2.CX X.prog X.w) X σ (E σ)) (ha : PA X (e :: es) t) (hdb : (x == ("__debug__" : Str)) = false) (h1 : starEach (e :: es) X.env = (false, eval e X.env) :: starEach es X.env) (h2 : (backTo pos (starEach es X.env)).any (·.1) = false) :
    PE X (.Call (.Name x p) (e :: es) [] pos) (tCallS sp E t) :=
  ⟨fun pins s σ H Q I h => wpAny_Call_Name_kw (ld_glob I hg hm (PySem.W.callWith_K (h₀ := X.base) I.ok.mod.kin hk (thn (ha.run pos pins s σ H _ I h) fun us s1 ⟨vs, H1, I1, r, q⟩ => ⟨I1.kIn, runG F hr hgd hb (hx σ) I1 r q⟩) h1 h2) hdb)⟩
/-- f() -/
theorem callG0 {X : Cx} {gd : Bool} {k : Nat} {f : Addr} {fd : FuncData} {ps : List Str} {sp : Sp} {E : L2.St → XK} {x : Str} {p pos : Pos} (F : FnG X.prog X.w X.K X.mg X.base gd k f fd ps sp) (hr : Room k X.A) (hgd : gd = true → X.A.guards = some []) (hg : Gl X x) (hm : X.mg x = some (.ref f)) (hk : PySem.W.keepIn X.K (.ref f) = true)
    (hb : Binds X.K fd ps []) (hx : ∀ σ, PassesAt (L2.CX X.prog X.w) X σ (E σ)) (hdb : (x == ("__debug__" : Str)) = false) : PE X (.Call (.Name x p) [] [] pos) (tCallS sp E tNil) :=
  ⟨fun pins s σ H Q I h => wpAny_Call_Name_kw (ld_glob I hg hm (PySem.W.callWith_K0 I.kIn hk (runG F hr hgd hb (hx σ) I .nil h)) hdb)⟩
/-! ### the state -/
/-- how an exception of ours stands -/
def fsV (i j : Int) : List (Str × V) := [(Str.ofString "most", .int j), (Str.ofString "many", .int i)]
def RX (Z : Zt) (H : Hp) (m : List Addr) (e : Exc) (cls : Value) (d : Option Addr) : Prop :=
  ∃ C, Z.mg (Str.ofString e.cls) = some (.ref C) ∧ cls = .ref C ∧
    ((e.fs = [] ∧ e.cls ∈ Z.xs ∧ d = none) ∨ ∃ i j dd, e.fs = [i, j] ∧ e.cls ∈ Z.xi ∧ d = some dd ∧ H dd = some (.xd (fsV i j)))
structure RE (Z : Zt) (H : Hp) (m : List Addr) (r : Mp.Env) (σ : L2.St) : Prop where
  len : r.length = σ.length
  at' : ∀ (i : Nat) (v : Val), r[i]? = some (some v) → ∃ x, σ[i]? = some (some x) ∧ RV Z.K H m v x
theorem RE.grow {Z : Zt} {m m' : List Addr} {S : Sto} {H H' : Hp} {r : Mp.Env} {σ : L2.St} (R : Rep Z m S H) (g : Grow m H m' H') (e : RE Z H m r σ) : RE Z H' m' r σ :=
  ⟨e.len, fun i v h => let ⟨x, h1, h2⟩ := e.at' i v h; ⟨x, h1, RV.grow R g v x h2⟩⟩
theorem RE.set {Z : Zt} {m : List Addr} {H : Hp} {r : Mp.Env} {σ : L2.St} (e : RE Z H m r σ) {v : Val} {x : V} (h : RV Z.K H m v x) (i : Nat) : RE Z H m (r.set i (some v)) (σ.set i (some x)) := by
  refine ⟨by rw [List.length_set, List.length_set, e.len], fun j u hj => ?_⟩
  by_cases hi : j = i
  · subst hi
    have hl : j < r.length := by
      have := (List.getElem?_eq_some_iff.mp hj).1
      rwa [List.length_set] at this
    rw [List.getElem?_set_self hl] at hj
    cases hj
    exact ⟨x, by rw [List.getElem?_set_self (by rw [← e.len]; exact hl)], h⟩
  · rw [List.getElem?_set_ne (Ne.symm hi)] at hj
    obtain ⟨y, h1, h2⟩ := e.at' j u hj
    exact ⟨y, by rw [List.getElem?_set_ne (Ne.symm hi)]; exact h1, h2⟩
theorem RE.none {Z : Zt} {m : List Addr} {H : Hp} {r : Mp.Env} {σ : L2.St} (e : RE Z H m r σ) (i : Nat) : RE Z H m (r.set i none) (σ.set i none) := by
  refine ⟨by rw [List.length_set, List.length_set, e.len], fun j u hj => ?_⟩
  by_cases hi : j = i
  · subst hi
    have hl : j < r.length := by
      have := (List.getElem?_eq_some_iff.mp hj).1
      rwa [List.length_set] at this
    rw [List.getElem?_set_self hl] at hj
    cases hj
  · rw [List.getElem?_set_ne (Ne.symm hi)] at hj
    obtain ⟨y, h1, h2⟩ := e.at' j u hj
    exact ⟨y, by rw [List.getElem?_set_ne (Ne.symm hi)]; exact h1, h2⟩
theorem RE.wipe {Z : Zt} {m : List Addr} {H : Hp} {r : Mp.Env} {σ : L2.St} (e : RE Z H m r σ) : ∀ l : List Nat, RE Z H m (wipeE r l) (wipe σ l)
  | [] => e
  | i :: l => (RE.wipe e l).none i
/-- the state; PX: what is wanted of an exception, W: the same of the model's -/
structure Bs (Z : Zt) (W : WX) (PX : QX) (r : Mp.Env) (σ : L2.St) (m : List Addr) (S : Sto) (H : Hp) : Prop where
  rep : Rep Z m S H
  re : RE Z H m r σ
  kx : ∀ e S' m' H' cls d, PX e S' → Grow m H m' H' → Rep Z m' S' H' → RX Z H' m' e cls d → W cls d σ H'
theorem Bs.grow {Z : Zt} {W : WX} {PX : QX} {r : Mp.Env} {σ : L2.St} {m m' : List Addr} {S S' : Sto} {H H' : Hp} (b : Bs Z W PX r σ m S H) (g : Grow m H m' H') (R : Rep Z m' S' H') : Bs Z W PX r σ m' S' H' :=
  ⟨R, b.re.grow b.rep g, fun e S2 m2 H2 cls d p g2 => b.kx e S2 m2 H2 cls d p (g.trans g2)⟩
/-- readings by our terms -/
def tI (Z : Zt) (W : WX) (t : Mp.Env → Sto → QV → QX → Prop) : TE := fun σ H Q => ∃ m S r P PX, Bs Z W PX r σ m S H ∧ t r S P PX ∧ KV Z m H P Q
def tT (Z : Zt) (W : WX) (t : Mp.Env → Sto → QV → QX → Prop) : TT := fun σ H Q => ∃ m S r P PX, Bs Z W PX r σ m S H ∧ t r S P PX ∧ ∀ v S' m' H', P v S' → Grow m H m' H' → Rep Z m' S' H' → ∃ k, truV S' v = some k ∧ Q k H'
def tL (Z : Zt) (W : WX) (t : Mp.Env → Sto → (List Val → Sto → Prop) → QX → Prop) : TA := fun σ H Q => ∃ m S r P PX, Bs Z W PX r σ m S H ∧ t r S P PX ∧ ∀ vs S' m' H' xs, P vs S' → Grow m H m' H' → Rep Z m' S' H' → RVs Z.K H' m' vs xs → Q xs H'
def tO (Z : Zt) (W : WX) (t : Mp.Env → Sto → (Option Int → Sto → Prop) → QX → Prop) : TO := fun σ H Q => ∃ m S r P PX, Bs Z W PX r σ m S H ∧ t r S P PX ∧ ∀ o S' m' H', P o S' → Grow m H m' H' → Rep Z m' S' H' → Q o H'
section
variable {Z : Zt} {W : WX} {PX : QX} {r : Mp.Env} {σ : L2.St} {m : List Addr} {S : Sto} {H : Hp}
theorem mkI {t : Mp.Env → Sto → QV → QX → Prop} {P : QV} {Q : VK} (b : Bs Z W PX r σ m S H) (h : t r S P PX) (k : ∀ v S' m' H' x, P v S' → Grow m H m' H' → Bs Z W PX r σ m' S' H' → RV Z.K H' m' v x → Q x H') : tI Z W t σ H Q :=
  ⟨m, S, r, P, PX, b, h, fun v S' m' H' x p g R rv => k v S' m' H' x p g (b.grow g R) rv⟩
theorem mkL {t : Mp.Env → Sto → (List Val → Sto → Prop) → QX → Prop} {P : List Val → Sto → Prop} {Q : List V → Hp → Prop} (b : Bs Z W PX r σ m S H) (h : t r S P PX) (k : ∀ v S' m' H' x, P v S' → Grow m H m' H' → Bs Z W PX r σ m' S' H' → RVs Z.K H' m' v x → Q x H') : tL Z W t σ H Q :=
  ⟨m, S, r, P, PX, b, h, fun v S' m' H' x p g R rv => k v S' m' H' x p g (b.grow g R) rv⟩
theorem mkO {t : Mp.Env → Sto → (Option Int → Sto → Prop) → QX → Prop} {P : Option Int → Sto → Prop} {Q : Option Int → Hp → Prop} (b : Bs Z W PX r σ m S H) (h : t r S P PX) (k : ∀ v S' m' H', P v S' → Grow m H m' H' → Bs Z W PX r σ m' S' H' → Q v H') : tO Z W t σ H Q :=
  ⟨m, S, r, P, PX, b, h, fun v S' m' H' p g R => k v S' m' H' p g (b.grow g R)⟩
theorem mkT {t : Mp.Env → Sto → QV → QX → Prop} {P : QV} {Q : Bool → Hp → Prop} (b : Bs Z W PX r σ m S H) (h : t r S P PX) (k : ∀ v S' m' H', P v S' → Grow m H m' H' → Bs Z W PX r σ m' S' H' → ∃ k, truV S' v = some k ∧ Q k H') : tT Z W t σ H Q :=
  ⟨m, S, r, P, PX, b, h, fun v S' m' H' p g R => k v S' m' H' p g (b.grow g R)⟩
end
theorem PEi {X : Cx} {e : Expr} {t t' : TE} (h : PE X e t) (k : ∀ σ H Q, t' σ H Q → t σ H Q) : PE X e t' := ⟨fun pins s σ H Q I q => h.run pins s σ H Q I (k σ H Q q)⟩
theorem PTi {X : Cx} {e : Expr} {t t' : TT} (h : PT X e t) (k : ∀ σ H Q, t' σ H Q → t σ H Q) : PT X e t' := ⟨fun pins s σ H Q I q => h.run pins s σ H Q I (k σ H Q q)⟩
theorem PWi {X : Cx} {e : Expr} {t t' : TT} (h : PW X e t) (k : ∀ σ H Q, t' σ H Q → t σ H Q) : PW X e t' := ⟨fun wh pins s σ H Q I q => h.run wh pins s σ H Q I (k σ H Q q)⟩
theorem PAi {X : Cx} {e : List Expr} {t t' : TA} (h : PA X e t) (k : ∀ σ H Q, t' σ H Q → t σ H Q) : PA X e t' := ⟨fun pos pins s σ H Q I q => h.run pos pins s σ H Q I (k σ H Q q)⟩
theorem POi {X : Cx} {e : Option Expr} {t t' : TO} (h : PO X e t) (k : ∀ σ H Q, t' σ H Q → t σ H Q) : PO X e t' := ⟨fun pins s σ H Q I q => h.run pins s σ H Q I (k σ H Q q)⟩
theorem PSi {X : Cx} {e : Stmt} {t t' : TS} (h : PS X e t) (k : ∀ D σ H, t' D σ H → t D σ H) : PS X e t' := ⟨fun pins s σ H D I q => h.run pins s σ H D I (k D σ H q)⟩
end Mp

set_option Elab.async false
set_option linter.all false
set_option maxRecDepth 100000
set_option autoImplicit false
/-! Mini6: when a term of ours tells a text of the model. -/
namespace Mp
open PySem PySem.Spec PyProof.Rows L2

/-- what the texts may lean on: the defs, the module's constants, the names that are still the built-in ones -/
structure Facts where
  fns : List String
  cns : List (String × Val)
  frs : List String
  dfs : List (String × List Val)
  /-- the defs that a lambda may call; the own error classes; has the def a lambda; 0: a def, 1: a lambda's body, 2: under a handled exception -/
  lows : List String := []
  xns : List String := []
  lam : Bool := false
  kind : Nat := 0
  /-- the classes that the handled exception is held against -/
  cls : List String := []
  /-- has the law a _law_word -/
  wrd : Bool := false
  /-- the own error classes with fields; are the handled exception's fields read -/
  xis : List String := []
  fld : Bool := false
  /-- the defs that are used as values -/
  fvs : List String := []
  /-- the module's dicts with texts as keys -/
  dcs : List (String × List (Str × Val)) := []
def Facts.noLam (F : Facts) : Facts := { F with lam := false }
def Facts.low (F : Facts) : Facts := { F with fns := F.lows, lam := false, kind := 1 }
/-- an own class is raised with a text -/
def vRaise : Stmt → Option (Str × Str)
  | .Raise e c _ => (match e, c with
    | some (.Call f es ks _), none => (match f, es, ks with
      | .Name x _, [.Constant (.str m) _ _], [] => some (x, m)
      | _, _, _ => none)
    | _, _ => none)
  | _ => none
theorem vRaise_eq {s : Stmt} {v : Str × Str} (h : vRaise s = some v) : ∃ p1 k p2 p3 p4, s = .Raise (some (.Call (.Name v.1 p1) [.Constant (.str v.2) k p2] [] p3)) none p4 := by
  cases s <;> simp only [vRaise] at h <;> first | cases h | skip
  split at h
  · split at h
    · cases h
      exact ⟨_, _, _, _, _, rfl⟩
    · cases h
  · cases h
/-- an own class is raised with values -/
def vRaiseA : Stmt → Option (Str × List Expr)
  | .Raise e c _ => (match e, c with
    | some (.Call f es ks _), none => (match f, ks with
      | .Name x _, [] => some (x, es)
      | _, _ => none)
    | _, _ => none)
  | _ => none
theorem vRaiseA_eq {s : Stmt} {v : Str × List Expr} (h : vRaiseA s = some v) : ∃ p1 p3 p4, s = .Raise (some (.Call (.Name v.1 p1) v.2 [] p3)) none p4 := by
  cases s <;> simp only [vRaiseA] at h <;> first | cases h | skip
  split at h
  · split at h
    · cases h
      exact ⟨_, _, _, rfl⟩
    · cases h
  · cases h
/-- a field -/
def vAttr : Expr → Option (Expr × Str)
  | .Attribute e n _ => some (e, n)
  | _ => none
theorem vAttr_eq {e : Expr} {v : Expr × Str} (h : vAttr e = some v) : ∃ p, e = .Attribute v.1 v.2 p := by
  cases e <;> simp only [vAttr] at h <;> cases h
  exact ⟨_, rfl⟩
/-- _law_said(lambda: e) -/
def vLam : Expr → Option (Str × Arguments × Expr × Scope)
  | .Call f es ks _ => (match f, es, ks with
    | .Name x _, [.Lambda ps b sc _], [] => some (x, ps, b, sc)
    | _, _, _ => none)
  | _ => none
theorem vLam_eq {e : Expr} {v : Str × Arguments × Expr × Scope} (h : vLam e = some v) : ∃ p q r, e = .Call (.Name v.1 p) [.Lambda v.2.1 v.2.2.1 v.2.2.2 q] [] r := by
  cases e <;> simp only [vLam] at h <;> first | cases h | skip
  split at h
  · cases h
    exact ⟨_, _, _, rfl⟩
  · cases h
def noPar (ps : Arguments) : Bool := match ps with
  | ⟨[], [], none, [], [], none, []⟩ => true
  | _ => false
def visB (sc : Scope) (x : Str) : Bool := match sc.names.lookup x with
  | some .local => true | some .cell => true | some .free => true
  | _ => false
def glB (sc : Scope) (x : Str) : Bool := match sc.names.lookup x with
  | some .globalImplicit => true
  | _ => false
def locB (sc : Scope) (x : Str) : Bool := match sc.names.lookup x with
  | some .local => true
  | some .cell => true
  | _ => false
def lonB (sc : Scope) (x : Str) : Bool := match sc.names.lookup x with
  | some .local => true
  | _ => false
def okB (x : Str) : Bool := !(x == ("__debug__" : Str)) && !(x == ("__classdict__" : Str)) && !(x == ("__name__" : Str))
def opB' : Bop → Operator → Bool
  | .add, .Add => true | .sub, .Sub => true | .mul, .Mult => true | .fdiv, .FloorDiv => true | .mod, .Mod => true | .pow, .Pow => true
  | _, _ => false
theorem opB'_eq {o : Bop} {p : Operator} (h : opB' o p = true) : p = bop o := by
  cases o <;> cases p <;> first | rfl | cases h
def cpB : Cop → CmpOp → Bool
  | .eq, .Eq => true | .ne, .NotEq => true | .lt, .Lt => true | .le, .LtE => true | .gt, .Gt => true | .ge, .GtE => true
  | .is, .Is => true | .isnot, .IsNot => true | .isin, .In => true | .notin, .NotIn => true
  | _, _ => false
theorem cpB_eq {o : Cop} {p : CmpOp} (h : cpB o p = true) : p = cop o := by
  cases o <;> cases p <;> first | rfl | cases h
def conB (v : Val) (c : Const) : Bool := match v with
  | .non => (match c with | .none => true | _ => false)
  | .bl b => (match c with | .bool d => b == d | _ => false)
  | .int i => (match c with | .int j => decide (i = j) | _ => false)
  | .str x => (match c with | .str y => decide (x = y) | _ => false)
  | _ => false
def valB1 (v u : Val) : Bool := match v with
  | .non => (match u with | .non => true | _ => false)
  | .bl b => (match u with | .bl d => b == d | _ => false)
  | .int i => (match u with | .int j => decide (i = j) | _ => false)
  | .str x => (match u with | .str y => decide (x = y) | _ => false)
  | _ => false
theorem valB1_eq {v u : Val} (h : valB1 v u = true) : v = u := by
  unfold valB1 at h
  cases v <;> cases u <;> simp at h <;> first | rfl | (rw [h])
def valsB1 : List Val → List Val → Bool
  | [], [] => true
  | v :: l, u :: k => valB1 v u && valsB1 l k
  | _, _ => false
theorem valsB1_eq : ∀ {l k : List Val}, valsB1 l k = true → l = k
  | [], [], _ => rfl
  | [], _ :: _, h => by cases h
  | _ :: _, [], h => by cases h
  | v :: l, u :: k, h => by
    simp only [valsB1, Bool.and_eq_true] at h
    rw [valB1_eq h.1, valsB1_eq h.2]
/-- two constants are one (a tuple: of plain ones) -/
def valB (v u : Val) : Bool := match v with
  | .tup l => (match u with | .tup k => valsB1 l k | _ => false)
  | _ => valB1 v u
theorem valB_eq {v u : Val} (h : valB v u = true) : v = u := by
  unfold valB at h
  split at h
  · split at h
    · rw [valsB1_eq h]
    · cases h
  · exact valB1_eq h
def kvsB : List (Str × Val) → List (Str × Val) → Bool
  | [], [] => true
  | p :: l, q :: k => decide (p.1 = q.1) && valB1 p.2 q.2 && kvsB l k
  | _, _ => false
theorem kvsB_eq : ∀ {l k : List (Str × Val)}, kvsB l k = true → l = k
  | [], [], _ => rfl
  | [], _ :: _, h => by cases h
  | _ :: _, [], h => by cases h
  | (a, v) :: l, (b, u) :: k, h => by
    simp only [kvsB, Bool.and_eq_true] at h
    have e : a = b := of_decide_eq_true h.1.1
    rw [e, valB1_eq h.1.2, kvsB_eq h.2]
def biN : Bi → String
  | .len => "len" | .abs => "abs" | .max => "max" | .min => "min" | .sum => "sum" | .all => "all" | .tuple => "tuple" | .list => "list" | .repr => "repr"
  | .sorted => "sorted" | .divmod => "divmod" | .int => "int" | .str => "str"
def metN : Met → String
  | .append => "append" | .extend => "extend" | .pop => "pop" | .index => "index" | .count => "count"
/-! ### views of a text -/
def vName : Expr → Option Str
  | .Name x _ => some x
  | _ => none
theorem vName_eq {e : Expr} {x : Str} (h : vName e = some x) : ∃ p, e = .Name x p := by
  cases e <;> simp [vName] at h; subst h; exact ⟨_, rfl⟩
def vCon : Expr → Option Const
  | .Constant c _ _ => some c
  | _ => none
theorem vCon_eq {e : Expr} {c : Const} (h : vCon e = some c) : ∃ k p, e = .Constant c k p := by
  cases e <;> simp [vCon] at h; subst h; exact ⟨_, _, rfl⟩
def vBin : Expr → Option (Expr × Operator × Expr)
  | .BinOp x p y _ => some (x, p, y)
  | _ => none
theorem vBin_eq {e : Expr} {v : Expr × Operator × Expr} (h : vBin e = some v) : ∃ p, e = .BinOp v.1 v.2.1 v.2.2 p := by
  cases e <;> simp [vBin] at h; subst h; exact ⟨_, rfl⟩
def vUn : Expr → Option (UnaryOp × Expr)
  | .UnaryOp o x _ => some (o, x)
  | _ => none
theorem vUn_eq {e : Expr} {v : UnaryOp × Expr} (h : vUn e = some v) : ∃ p, e = .UnaryOp v.1 v.2 p := by
  cases e <;> simp [vUn] at h; subst h; exact ⟨_, rfl⟩
def vCmp : Expr → Option (Expr × List CmpOp × List Expr)
  | .Compare x o l _ => some (x, o, l)
  | _ => none
theorem vCmp_eq {e : Expr} {v : Expr × List CmpOp × List Expr} (h : vCmp e = some v) : ∃ p, e = .Compare v.1 v.2.1 v.2.2 p := by
  cases e <;> simp [vCmp] at h; subst h; exact ⟨_, rfl⟩
def vBo : Expr → Option (BoolOp × List Expr)
  | .BoolOp o l _ => some (o, l)
  | _ => none
theorem vBo_eq {e : Expr} {v : BoolOp × List Expr} (h : vBo e = some v) : ∃ p, e = .BoolOp v.1 v.2 p := by
  cases e <;> simp [vBo] at h; subst h; exact ⟨_, rfl⟩
def vIf : Expr → Option (Expr × Expr × Expr)
  | .IfExp x y z _ => some (x, y, z)
  | _ => none
theorem vIf_eq {e : Expr} {v : Expr × Expr × Expr} (h : vIf e = some v) : ∃ p, e = .IfExp v.1 v.2.1 v.2.2 p := by
  cases e <;> simp [vIf] at h; subst h; exact ⟨_, rfl⟩
def vTup : Expr → Option (List Expr)
  | .Tuple l _ _ => some l
  | _ => none
theorem vTup_eq {e : Expr} {v : List Expr} (h : vTup e = some v) : ∃ k p, e = .Tuple v k p := by
  cases e <;> simp [vTup] at h; subst h; exact ⟨_, _, rfl⟩
def vLst : Expr → Option (List Expr)
  | .List l _ => some l
  | _ => none
theorem vLst_eq {e : Expr} {v : List Expr} (h : vLst e = some v) : ∃ p, e = .List v p := by
  cases e <;> simp [vLst] at h; subst h; exact ⟨_, rfl⟩
def vSub : Expr → Option (Expr × Expr)
  | .Subscript x y _ => some (x, y)
  | _ => none
theorem vSub_eq {e : Expr} {v : Expr × Expr} (h : vSub e = some v) : ∃ p, e = .Subscript v.1 v.2 p := by
  cases e <;> simp [vSub] at h; subst h; exact ⟨_, rfl⟩
def vSl : Expr → Option (Option Expr × Option Expr × Option Expr)
  | .Slice a b c _ => some (a, b, c)
  | _ => none
theorem vSl_eq {e : Expr} {v : Option Expr × Option Expr × Option Expr} (h : vSl e = some v) : ∃ p, e = .Slice v.1 v.2.1 v.2.2 p := by
  cases e <;> simp [vSl] at h; subst h; exact ⟨_, rfl⟩
/-- f(..) of a name, without keywords -/
def vCall : Expr → Option (Str × List Expr)
  | .Call f es ks _ => (match f, ks with
    | .Name x _, [] => some (x, es)
    | _, _ => none)
  | _ => none
theorem vCall_eq {e : Expr} {v : Str × List Expr} (h : vCall e = some v) : ∃ p q, e = .Call (.Name v.1 p) v.2 [] q := by
  cases e <;> simp only [vCall] at h <;> first | cases h | skip
  split at h
  · cases h
    exact ⟨_, _, rfl⟩
  · cases h
def vMet : Expr → Option (Expr × Str × List Expr × Bool)
  | .Call f es ks cp => (match f, ks with
    | .Attribute x n ap, [] => some (x, n, es, ap.endLine == cp.line)
    | _, _ => none)
  | _ => none
theorem vMet_eq {e : Expr} {v : Expr × Str × List Expr × Bool} (h : vMet e = some v) : ∃ p q, e = .Call (.Attribute v.1 v.2.1 p) v.2.2.1 [] q ∧ v.2.2.2 = (p.endLine == q.line) := by
  cases e <;> simp only [vMet] at h <;> first | cases h | skip
  split at h
  · cases h
    exact ⟨_, _, rfl, rfl⟩
  · cases h
def vLc : Expr → Option (Expr × Expr × Expr × List Expr × Scope)
  | .ListComp x gs sc _ => (match gs with
    | [⟨t, i, ifs, n⟩] => if n = 0 then some (x, t, i, ifs, sc) else none
    | _ => none)
  | _ => none
theorem vLc_eq {e : Expr} {v : Expr × Expr × Expr × List Expr × Scope} (h : vLc e = some v) : ∃ p, e = .ListComp v.1 [⟨v.2.1, v.2.2.1, v.2.2.2.1, 0⟩] v.2.2.2.2 p := by
  cases e <;> simp only [vLc] at h <;> first | cases h | skip
  split at h
  · split at h
    · rename_i hn
      cases h
      subst hn
      exact ⟨_, rfl⟩
    · cases h
  · cases h
def vInt (e : Expr) : Option Int := match vCon e with
  | some (.int i) => some i
  | _ => none
theorem vInt_eq {e : Expr} {i : Int} (h : vInt e = some i) : ∃ k p, e = .Constant (.int i) k p := by
  unfold vInt at h
  split at h
  · rename_i j q
    cases h
    exact vCon_eq q
  · cases h
def isCall0 (e : Expr) : Bool := match vCall e with
  | some (_, []) => true
  | _ => false
def tgN (N : List Str) (sc : Scope) (i : Nat) (e : Expr) : Bool := (vName e).any fun x => decide (N[i]? = some x) && locB sc x
def tgsN (N : List Str) (sc : Scope) : List Nat → List Expr → Bool
  | [], [] => true
  | i :: is, e :: es => tgN N sc i e && tgsN N sc is es
  | _, _ => false
def chkT (N : List Str) (sc : Scope) (t : Tg) (e : Expr) : Bool := match t with
  | .nm i => tgN N sc i e
  | .tup is => (vTup e).any fun es => tgsN N sc is es
def tyB (T : String) : Bool := tyOk T
def valsB : List Val → List Val → Bool
  | [], [] => true
  | v :: l, u :: k => valB v u && valsB l k
  | _, _ => false
theorem valsB_eq : ∀ {l k : List Val}, valsB l k = true → l = k
  | [], [], _ => rfl
  | [], _ :: _, h => by cases h
  | _ :: _, [], h => by cases h
  | v :: l, u :: k, h => by
    have h := Bool.and_eq_true_iff.mp h
    rw [valB_eq h.1, valsB_eq h.2]
def isDct : Expr → Bool
  | .Dict [] [] _ => true
  | _ => false
/-- {k: v} -/
def vD1 : Expr → Option (Expr × Expr)
  | .Dict [some k] [v] _ => some (k, v)
  | _ => none
theorem vD1_eq {e : Expr} {v : Expr × Expr} (h : vD1 e = some v) : ∃ p, e = .Dict [some v.1] [v.2] p := by
  unfold vD1 at h
  split at h
  · cases h
    exact ⟨_, rfl⟩
  · cases h
def notLc : Expr → Bool
  | .ListComp _ _ _ _ => false
  | _ => true
/-- the texts that terms tell -/
def okX : Expr → Bool
  | .Name _ _ => true | .Constant _ _ _ => true | .BinOp _ _ _ _ => true | .UnaryOp _ _ _ => true | .Compare _ _ _ _ => true | .BoolOp _ _ _ => true | .IfExp _ _ _ _ => true
  | .Tuple _ _ _ => true | .List _ _ => true | .Subscript _ _ _ => true | .Call _ _ _ _ => true | .ListComp _ _ _ _ => true | .Dict _ _ _ => true | .Attribute _ _ _ => true
  | _ => false
/-- the call of a built-in by its name -/
def biC (F : Facts) (sc : Scope) (n : String) (x : Str) : Bool := decide (x = Str.ofString n) && glB sc x && okB x && F.frs.contains n
def isRepr : Bi → Bool
  | .repr => true
  | _ => false
def xnB (F : Facts) (T : String) : Bool := F.cls.contains T || T == "ValueError"
def isTupT (e : Expr) : Bool := (vTup e).isSome
def itT : I → Bool
  | .enum _ => true
  | .ditems _ => true
  | .zip _ _ => true
  | _ => false
def ownIn (own : List Nat) : Tg → Bool
  | .nm i => own.contains i
  | .tup is => is.all own.contains
mutual
def chk : Facts → List Str → Scope → E → Expr → Bool
  | F, N, sc, .var i, x => (vName x).any fun n => decide (N[i]? = some n) && visB sc n && okB n
  | _, _, _, .con v, x => (vCon x).any fun c => conB v c
  | F, N, sc, .glo y v, x => (vName x).any fun n => decide (n = Str.ofString y) && glB sc n && okB n && F.cns.any fun p => p.1 == y && valB p.2 v
  | F, N, sc, .bin o a b, x => (vBin x).any fun v => opB' o v.2.1 && chk F N sc a v.1 && chk F N sc b v.2.2
  | F, N, sc, .neg a, x => (vUn x).any fun v => (match v.1 with | .USub => true | _ => false) && chk F N sc a v.2
  | F, N, sc, .not a, x => (vUn x).any fun v => (match v.1 with | .Not => true | _ => false) && chk F N sc a v.2
  | F, N, sc, .cmp o a b, x => (vCmp x).any fun v => (match v.2.1, v.2.2 with | [p], [y] => cpB o p && chk F N sc a v.1 && chk F N sc b y | _, _ => false)
  | F, N, sc, .cmp2 o p a b c, x => (vCmp x).any fun v => (match v.2.1, v.2.2 with | [q, q2], [y, z] => cpB o q && cpB p q2 && chk F N sc a v.1 && chk F N sc b y && chk F N sc c z | _, _ => false)
  | F, N, sc, .and l, x => (vBo x).any fun v => (match v.1 with | .And => true | _ => false) && !v.2.isEmpty && chks F N sc l v.2
  | F, N, sc, .or l, x => (vBo x).any fun v => (match v.1 with | .Or => true | _ => false) && !v.2.isEmpty && chks F N sc l v.2
  | F, N, sc, .ite c a b, x => (vIf x).any fun v => chk F N sc c v.1 && chk F N sc a v.2.1 && chk F N sc b v.2.2
  | F, N, sc, .tup l, x => (vTup x).any fun es => chks F N sc l es
  | F, N, sc, .lst l, x => (vLst x).any fun es => chks F N sc l es
  | F, N, sc, .ix a i, x => (vSub x).any fun v => chk F N sc a v.1 && chk F N sc i v.2
  | F, N, sc, .sl a lo hi st, x => (vSub x).any fun v => (vSl v.2).any fun w => chk F N sc a v.1 && chkP F N sc lo w.1 && chkP F N sc hi w.2.1 && chkP F N sc st w.2.2
  | F, N, sc, .call f l, x => (vCall x).any fun v => (decide (F.kind ≠ 2) || !v.2.isEmpty) && decide (v.1 = Str.ofString f) && glB sc v.1 && okB v.1 && F.fns.contains f && chks F N sc l v.2
  | F, N, sc, .bi f l, x => (vCall x).any fun v => decide (F.kind ≠ 2) && (!isRepr f || decide (F.kind = 0)) && biC F sc (biN f) v.1 && !v.2.isEmpty && chks F N sc l v.2
  | F, N, sc, .met f o l, x => (vMet x).any fun v => decide (v.2.1 = Str.ofString (metN f)) && v.2.2.2 && !isCall0 v.1 && decide (v.2.2.1.length < 29) && chk F N sc o v.1 && chks F N sc l v.2.2.1
  | F, N, sc, .isi e T, x => (vCall x).any fun v => biC F sc "isinstance" v.1 && tyB T && (match v.2 with | [y, t] => chk F N sc e y && ((vName t).any fun n => biC F sc T n) | _ => false)
  | F, N, sc, .lc e tg it c own, x => (vLc x).any fun v =>
      decide (F.kind ≠ 2) && blkC N sc v.2.2.2.2 (own.map fun k => ((N[k]?).getD Str.empty, k)) && ownIn own tg && (!itT it || isTupT v.2.1) && chkI F N sc it v.2.2.1 && chkT N v.2.2.2.2 tg v.2.1 && chkC F N (relS v.2.2.2.2 sc) c v.2.2.2.1 && chk F N (relS v.2.2.2.2 sc) e v.1
  | F, N, sc, .rgt a b, x => (vCall x).any fun v => decide (F.kind ≠ 2) && biC F sc "tuple" v.1 && (match v.2 with | [y] => (vCall y).any fun u => biC F sc "range" u.1 && (match u.2 with | [p, q] => chk F N sc a p && chk F N sc b q | _ => false) | _ => false)
  | F, N, sc, .rgl a b, x => (vCall x).any fun v => decide (F.kind ≠ 2) && biC F sc "list" v.1 && (match v.2 with | [y] => (vCall y).any fun u => biC F sc "range" u.1 && (match u.2 with | [p, q] => chk F N sc a p && chk F N sc b q | _ => false) | _ => false)
  | F, N, sc, .calld f l ds, x => (vCall x).any fun v => decide (F.kind ≠ 2) && decide (v.1 = Str.ofString f) && glB sc v.1 && okB v.1 && F.dfs.any (fun p => p.1 == f && valsB p.2 ds) && F.fns.contains f && chks F N sc l v.2
  | F, N, sc, .sset e, x => (vCall x).any fun v => decide (F.kind ≠ 2) && biC F sc "sorted" v.1 && (match v.2 with | [y] => (vCall y).any fun u => biC F sc "set" u.1 && (match u.2 with | [z] => chk F N sc e z | _ => false) | _ => false)
  | _, _, _, .dct, x => isDct x
  | F, N, sc, .dfr e, x => (vCall x).any fun v => decide (F.kind ≠ 2) && biC F sc "dict" v.1 && (match v.2 with | [p] => chk F N sc e p | _ => false)
  | F, N, sc, .dix a i, x => (vSub x).any fun v => okX v.2 && chk F N sc a v.1 && chk F N sc i v.2
  | F, N, sc, .rvs e, x => (vSub x).any fun v => (vSl v.2).any fun w => w.1.isNone && w.2.1.isNone && (w.2.2.any fun y => (vUn y).any fun u => (match u.1 with | .USub => true | _ => false) && decide (vInt u.2 = some 1)) && chk F N sc e v.1
  | F, N, sc, .eqn e, x => (vCmp x).any fun v => (match v.2.1, v.2.2 with | [p], [y] => cpB .eq p && chk F N sc e v.1 && (vLst y).any (fun es => es.isEmpty) | _, _ => false)
  | _, _, _, .dtn, x => isDct x
  | F, N, sc, .dt1 k v, x => (vD1 x).any fun w => chk F N sc k w.1 && chk F N sc v w.2
  | F, N, sc, .dtf e, x => (vCall x).any fun v => decide (F.kind ≠ 2) && biC F sc "dict" v.1 && (match v.2 with | [p] => chk F N sc e p | _ => false)
  | F, N, sc, .dtx a i, x => (vSub x).any fun v => okX v.2 && chk F N sc a v.1 && chk F N sc i v.2
  | F, N, sc, .dtg a k z, x => (vMet x).any fun v => decide (v.2.1 = Str.ofString "get") && v.2.2.2 && !isCall0 v.1 && chk F N sc a v.1 && (match v.2.2.1 with | [p, q] => chk F N sc k p && chk F N sc z q | _ => false)
  | F, N, sc, .dte a, x => (vCmp x).any fun v => (match v.2.1, v.2.2 with | [p], [y] => cpB .eq p && chk F N sc a v.1 && isDct y | _, _ => false)
  | F, N, sc, .dnt a, x => (vCmp x).any fun v => (match v.2.1, v.2.2 with | [p], [y] => cpB .ne p && chk F N sc a v.1 && isDct y | _, _ => false)
  | F, N, sc, .dti a b, x => (vCmp x).any fun v => (match v.2.1, v.2.2 with | [p], [y] => cpB .isin p && chk F N sc a v.1 && chk F N sc b y | _, _ => false)
  | F, N, sc, .dtv a, x => (vCall x).any fun v => decide (F.kind ≠ 2) && biC F sc "list" v.1 && (match v.2 with | [y] => (vMet y).any fun u => decide (u.2.1 = Str.ofString "values") && u.2.2.2 && u.2.2.1.isEmpty && !isCall0 u.1 && chk F N sc a u.1 | _ => false)
  | F, N, sc, .dkf e, x => (vCall x).any fun v => decide (F.kind ≠ 2) && biC F sc "dict" v.1 && (match v.2 with | [p] => chk F N sc e p | _ => false)
  | F, N, sc, .dkz i j, x => (vD1 x).any fun w => decide (vInt w.1 = some i) && decide (vInt w.2 = some j)
  | F, N, sc, .dkc e, x => (vCall x).any fun v => decide (F.kind ≠ 2) && biC F sc "dict" v.1 && (match v.2 with | [p] => chk F N sc e p | _ => false)
  | F, N, sc, .dkx a i, x => (vSub x).any fun v => okX v.2 && chk F N sc a v.1 && chk F N sc i v.2
  | F, N, sc, .dkm a b, x => (vCmp x).any fun v => (match v.2.1, v.2.2 with | [p], [y] => cpB .isin p && chk F N sc a v.1 && chk F N sc b y | _, _ => false)
  | F, N, sc, .dkn a b, x => (vCmp x).any fun v => (match v.2.1, v.2.2 with | [p], [y] => cpB .notin p && chk F N sc a v.1 && chk F N sc b y | _, _ => false)
  | F, N, sc, .dkl e, x => (vCall x).any fun v => biC F sc "len" v.1 && (match v.2 with | [p] => chk F N sc e p | _ => false)
  | F, N, sc, .zpl a b, x => (vCall x).any fun v => decide (F.kind ≠ 2) && biC F sc "list" v.1 && (match v.2 with | [y] => (vCall y).any fun u => biC F sc "zip" u.1 && (match u.2 with | [p, q] => chk F N sc a p && chk F N sc b q | _ => false) | _ => false)
  | F, N, sc, .ntin a b, x => (vCmp x).any fun v => (match v.2.1, v.2.2 with | [p], [y] => cpB .notin p && chk F N sc a v.1 && chk F N sc b y | _, _ => false)
  | F, N, sc, .said e, x => (vLam x).any fun v => decide (v.1 = Str.ofString "_law_said") && glB sc v.1 && decide (F.kind = 0) && F.lam && noPar v.2.1 && LamX.lamSB sc v.2.2.2 && chk F.low N v.2.2.2 e v.2.2.1
  | F, N, sc, .word e, x => (vLam x).any fun v => F.wrd && decide (v.1 = Str.ofString "_law_word") && glB sc v.1 && decide (F.kind = 0) && F.lam && noPar v.2.1 && LamX.lamSB sc v.2.2.2 && chk F.low N v.2.2.2 e v.2.2.1
  | F, N, sc, .isx e T, x => (vCall x).any fun v => decide (F.kind = 2) && xnB F T && biC F sc "isinstance" v.1 && (match v.2 with | [y, t] => chk F N sc e y && ((vName t).any fun n => decide (n = Str.ofString T) && glB sc n && okB n && (F.cls.contains T || F.frs.contains T)) | _ => false)
  | F, N, sc, .fld i n, x => (vAttr x).any fun v => decide (F.kind = 2) && F.fld && decide (v.2 = Str.ofString n) && decide (n = "many" ∨ n = "most") && (vName v.1).any fun y => decide (N[i]? = some y) && visB sc y && okB y
  | F, _, sc, .fnv f, x => (vName x).any fun n => decide (F.kind ≠ 2) && decide (n = Str.ofString f) && glB sc n && okB n
  | F, N, sc, .callv i l, x => (vCall x).any fun v => decide (F.kind ≠ 2) && F.fvs.all F.fns.contains && decide (N[i]? = some v.1) && visB sc v.1 && okB v.1 && !v.2.isEmpty && chks F N sc l v.2
  | F, N, sc, .jn sep e, x => (vMet x).any fun v => decide (v.2.1 = Str.ofString "join") && v.2.2.2 && ((vCon v.1).any fun c => conB (.str sep) c) && (match v.2.2.1 with | [y] => chk F N sc e y | _ => false)
  | F, N, sc, .upp e, x => (vMet x).any fun v => decide (v.2.1 = Str.ofString "upper") && v.2.2.2 && !isCall0 v.1 && v.2.2.1.isEmpty && chk F N sc e v.1
  | F, N, sc, .scn e s, x => (vMet x).any fun v => decide (v.2.1 = Str.ofString "count") && v.2.2.2 && !isCall0 v.1 && (match v.2.2.1 with | [y] => (vCon y).any (fun c => conB (.str s) c) | _ => false) && chk F N sc e v.1
  | F, N, sc, .dcg g kvs, x => (vCall x).any fun v => decide (F.kind ≠ 2) && biC F sc "dict" v.1 && (match v.2 with | [p] => (vName p).any fun n => decide (n = Str.ofString g) && glB sc n && okB n && F.dcs.any fun q => q.1 == g && kvsB q.2 kvs | _ => false)
  | F, N, sc, .dim a b, x => (vCmp x).any fun v => (match v.2.1, v.2.2 with | [p], [y] => cpB .isin p && chk F N sc a v.1 && chk F N sc b y | _, _ => false)
  | F, N, sc, .rpr e, x => (vCall x).any fun v => decide (F.kind = 0) && biC F sc "repr" v.1 && (match v.2 with | [p] => chk F N sc e p | _ => false)
  | _, _, _, .bad, x => okX x && notLc x && !isCall0 x
def chks : Facts → List Str → Scope → Es → List Expr → Bool
  | _, _, _, .nil, l => l.isEmpty
  | F, N, sc, .cons e es, l => (match l with
    | x :: l => chk F N sc e x && chks F N sc es l
    | _ => false)
def chkP : Facts → List Str → Scope → Eo → Option Expr → Bool
  | _, _, _, .no, x => x.isNone
  | F, N, sc, .so e, x => x.any fun y => chk F N sc e y
def chkC : Facts → List Str → Scope → Eo → List Expr → Bool
  | _, _, _, .no, l => l.isEmpty
  | F, N, sc, .so e, l => (match l with
    | [x] => chk F N sc e x
    | _ => false)
def chkI : Facts → List Str → Scope → I → Expr → Bool
  | F, N, sc, .dkeys e, x => chk F N sc e x
  | F, N, sc, .ditems e, x => (vMet x).any fun u => decide (u.2.1 = Str.ofString "items") && u.2.2.2 && u.2.2.1.isEmpty && !isCall0 u.1 && chk F N sc e u.1
  | F, N, sc, .kkeys e, x => chk F N sc e x
  | F, N, sc, .kvals e, x => (vMet x).any fun u => decide (u.2.1 = Str.ofString "values") && u.2.2.2 && u.2.2.1.isEmpty && !isCall0 u.1 && chk F N sc e u.1
  | F, N, sc, .val e, x => chk F N sc e x
  | F, N, sc, .rng1 a, x => (vCall x).any fun v => biC F sc "range" v.1 && (match v.2 with | [p] => chk F N sc a p | _ => false)
  | F, N, sc, .rng2 a b, x => (vCall x).any fun v => biC F sc "range" v.1 && (match v.2 with | [p, q] => chk F N sc a p && chk F N sc b q | _ => false)
  | F, N, sc, .rng3 a b c, x => (vCall x).any fun v => biC F sc "range" v.1 && (match v.2 with | [p, q, k] => chk F N sc a p && chk F N sc b q && chk F N sc c k | _ => false)
  | F, N, sc, .enum e, x => (vCall x).any fun v => biC F sc "enumerate" v.1 && (match v.2 with | [p] => chk F N sc e p | _ => false)
  | F, N, sc, .zip a b, x => (vCall x).any fun v => biC F sc "zip" v.1 && (match v.2 with | [p, q] => chk F N sc a p && chk F N sc b q | _ => false)
  | F, N, sc, .rev e, x => (vCall x).any fun v => biC F sc "reversed" v.1 && (match v.2 with | [p] => chk F N sc e p | _ => false)
end
example : True := by
  have := @chk
  trivial
end Mp

set_option Elab.async false
set_option linter.all false
set_option maxRecDepth 100000
set_option autoImplicit false
/-! Mini7: built-in functions and methods. -/
namespace Mp
open PySem PySem.Spec PyProof.Rows L2
/-- divmod by any divisor that is not beyond 9000 bits -/
theorem call_divmodB {X : Cx} : CallR X (.builtin "divmod") (fun xs H Q => ∃ i j, xs = [.int i, .int j] ∧ (0 < j ∧ j < 10000000000000000000000000000000000000000) ∧ ∀ p, H p = none → Q (.ref p) (upd H p (.tup [.int (i / j), .int (i % j)]))) := by
  rintro pins s σ H xs us Q I r ⟨i, j, rfl, hj, q⟩
  obtain ⟨u, w2, rfl, ⟨t1, rfl⟩, ⟨t2, rfl⟩⟩ := vals2 r
  have e1 : i.fdiv j = i / j := Int.fdiv_eq_ediv_of_nonneg i (by omega)
  have e2 : i.fmod j = i % j := Int.fmod_eq_emod_of_nonneg i (by omega)
  refine divmod_int (by omega) ?_ (.inl (PyProof.noPylong_of_log2 (bigLog hj.1 hj.2)))
  rw [e1, e2]
  refine ⟨.ref s.heap.objs.size, _, ?_, rfl, q _ (I.hok.fresh (Nat.le_refl _))⟩
  exact I.laid (fun b o e => Heap.get?_push_of_some _ e) (Nat.le_refl _) ⟨by simp only [List.length_cons, List.length_nil]; rw [sizeLine_eq]; decide, [.int (i / j) s.toks, .int (i % j) (s.toks + 1)], .cons ⟨_, rfl⟩ (.cons ⟨_, rfl⟩ .nil), _, Heap.get?_push_size s.heap rfl, rfl, 0, rfl⟩
def biV : Bi → Value
  | .len => .builtin "len" | .abs => .builtin "abs" | .max => .builtin "max" | .min => .builtin "min" | .sum => .builtin "sum" | .all => .builtin "all" | .repr => .builtin "repr"
  | .sorted => .builtin "sorted" | .divmod => .builtin "divmod" | .tuple => .type "tuple" | .list => .type "list" | .int => .type "int" | .str => .type "str"
def rBi (Z : Zt) (f : Bi) : List V → Hp → VK → Prop := fun xs H Q => ∃ m S vs P, Rep Z m S H ∧ RVs Z.K H m vs xs ∧ biS f vs S P ∧ KV Z m H P Q
theorem RVs.one {K : PySem.W.Frag} {H : Hp} {m : List Addr} {v : Val} {xs : List V} (h : RVs K H m [v] xs) : ∃ x, xs = [x] ∧ RV K H m v x := by
  simp only [RVs] at h
  obtain ⟨x, r, rfl, h1, h2⟩ := h
  rw [h2]
  exact ⟨x, rfl, h1⟩
theorem RVs.two {K : PySem.W.Frag} {H : Hp} {m : List Addr} {v u : Val} {xs : List V} (h : RVs K H m [v, u] xs) : ∃ x y, xs = [x, y] ∧ RV K H m v x ∧ RV K H m u y := by
  simp only [RVs] at h
  obtain ⟨x, r, rfl, h1, y, r2, rfl, h2, h3⟩ := h
  rw [h3]
  exact ⟨x, y, rfl, h1, h2⟩
/-- sum of a tuple of ints -/
theorem sum_tup {prog : Program} {w : World} {A : Around} {E : Value → Shared → Prop} {s : Shared} {l : Addr} {its : List Value} {ns : List Int} {Q : Value → Shared → Prop} (hh : A.handled = none) (hl : s.heap.IsTuple l its.toArray) (hi : IntsAre its ns)
    (h : ∀ h' tk t', (∀ b o, s.heap.get? b = some o → h'.get? b = some o) → Q (.int ns.sum t') { s with heap := h', toks := tk }) : wpAny (model prog w) A (call (.builtin "sum") [.ref l]) Q E s := by
  obtain ⟨xs, e⟩ := hi.allInts.items
  have hn : numsOf (intItems xs).toList = ns := by rw [← e]; exact hi.numsOf
  rw [nums_intItems] at hn
  rw [e] at hl
  have lt : l < s.heap.objs.size := by
    obtain ⟨o, ho, _⟩ := hl
    exact Heap.lt_size ho
  have hne : s.heap.objs.size ≠ l := Nat.ne_of_gt lt
  refine call_sum_walkG (wpAny_pyIter_tuple hl ?_)
  refine ⟨s.heap.objs.size, [s.heap.objs.size, l], [s.heap.objs.size], (intItems xs).size, _, _, numAt xs, rfl, Walks.tuple (A := A.in1) hh _ l hne.symm (intItems xs), ⟨⟨_, Heap.get?_push_size _ rfl, rfl, rfl⟩, hl.push _⟩, ?_, (fun _ _ => intItems_at), fun h' tk t' hk => ?_⟩
  · intro b hb
    show b < (s.heap.push _).objs.size
    rw [Heap.size_push]
    rcases List.mem_cons.mp hb with z | z
    · rw [z]; exact Nat.lt_succ_self _
    · have : b = l := by simpa using z
      rw [this]
      exact Nat.lt_succ_of_lt lt
  · have := h h' tk t' (fun b o e => hk b o (by
      have : b ≠ s.heap.objs.size := Nat.ne_of_lt (Heap.lt_size e)
      simpa using this) (Heap.get?_push_of_some _ e))
    have e2 : preSum (numAt xs) (intItems xs).size = ns.sum := by
      rw [preSum_eq, List.take_of_length_le (by simp [intItems]), hn]
    rw [e2]
    exact this
theorem cr_sumT {X : Cx} (hc : X.calm = true) : CallR X (.builtin "sum") (fun vs H Q => ∃ (a : Addr) (ns : List Int), vs = [V.ref a] ∧ SqT X.K H a (ns.map V.int) ∧ Q (.int ns.sum) H) := by
  intro pins s σ H vs us Q I r h
  obtain ⟨a, ns, rfl, hs, q⟩ := h
  obtain rfl := r.ref1
  obtain ⟨its, rv, ht, _⟩ := I.tuple hs
  exact sum_tup (I.ok.hd hc) (show s.heap.IsTuple a its.toArray from ht) rv.ints fun h' tk t' k => ⟨.int ns.sum, H, I.kept k, ⟨t', rfl⟩, q⟩

theorem vals_getV : ∀ {xs : List V} {us : List Value} {i : Nat} {u : Value}, Vals xs us → us[i]? = some u → ∃ x, xs[i]? = some x ∧ RelV x u
  | _, _, _, _, .nil, h => by simp at h
  | _, _, 0, _, .cons r _, h => by
    simp at h
    subst h
    exact ⟨_, rfl, r⟩
  | _, _, i + 1, _, .cons _ t, h => by
    obtain ⟨x, e, r⟩ := vals_getV t (i := i) (by simpa using h)
    exact ⟨x, by simpa using e, r⟩
theorem one_reads {Z : Zt} {X : Cx} (hK : X.K = Z.K) {pins : List (Addr × PySem.Obj)} {σ : L2.St} {H : Hp} {s : Shared} (I : Inv X pins σ H s) {m : List Addr} {S : Sto} (R : Rep Z m S H) {n : Nat} : ∀ {l : List Val} {ds : List PyData} {i : Nat} {u : Val} {y : V} {v : Value}, l.mapM (toD n S) = some ds → l[i]? = some u → RV Z.K H m u y → RelV y v →
    ∃ d, toD n S u = some d ∧ ∃ as, Reads s.heap v d as := by
  intro l
  induction l with
  | nil => intro ds i u y v _ h; simp at h
  | cons a l ih =>
    intro ds i u y v h1 h2 h3 h4
    obtain ⟨h, _⟩ | ⟨a', r, d, ds', e, e2, h5, h6⟩ := mapM_of h1
    · cases h
    · cases e
      cases i with
      | zero =>
        simp at h2
        subst h2
        obtain ⟨q1, _, _⟩ := toD_ok R n a y d h5 h3
        obtain ⟨as, hr⟩ := Dp.reads I d y v (by rw [hK]; exact q1) h4
        exact ⟨d, h5, as, hr⟩
      | succ i => exact ih h6 (by simpa using h2) h3 h4
theorem all_reads {Z : Zt} {X : Cx} (hK : X.K = Z.K) {pins : List (Addr × PySem.Obj)} {σ : L2.St} {H : Hp} {s : Shared} (I : Inv X pins σ H s) {m : List Addr} {S : Sto} (R : Rep Z m S H) {n : Nat} : ∀ (l : List Val) (ys : List V) (its : List Value) (ds : List PyData), l.mapM (toD n S) = some ds → RVs Z.K H m l ys → Vals ys its →
    ∃ as, ReadsAll s.heap its ds as ∧ ∀ d ∈ ds, d.depth ≤ n
  | [], ys, its, ds, h1, h2, h3 => by
    simp only [RVs] at h2
    subst h2
    cases h3
    have e : ds = [] := by simpa using h1.symm
    subst e
    exact ⟨[], .nil, by simp⟩
  | a :: l, ys, its, ds, h1, h2, h3 => by
    simp only [RVs] at h2
    obtain ⟨x, r, rfl, h4, h5⟩ := h2
    obtain ⟨h, _⟩ | ⟨a', r', d, ds', e, e2, h6, h7⟩ := mapM_of h1
    · cases h
    · cases e
      cases h3 with
      | cons rx rt =>
        obtain ⟨q1, _, q3⟩ := toD_ok R n a x d h6 h4
        obtain ⟨as, hr⟩ := Dp.reads I d x _ (by rw [hK]; exact q1) rx
        obtain ⟨as2, hr2, hd2⟩ := all_reads hK I R l r _ ds' h7 h5 rt
        subst e2
        exact ⟨_, .cons hr hr2, fun z hz => by rcases List.mem_cons.mp hz with rfl | hz; exact q3; exact hd2 z hz⟩
/-- the items of a list, each with the data that it is -/
theorem zip_reads {Z : Zt} {X : Cx} (hK : X.K = Z.K) {pins : List (Addr × PySem.Obj)} {σ : L2.St} {H : Hp} {s : Shared} (I : Inv X pins σ H s) {m : List Addr} {S : Sto} (R : Rep Z m S H) {n : Nat} : ∀ (l : List Val) (ys : List V) (its : List Value) (ds : List PyData), l.mapM (toD n S) = some ds → RVs Z.K H m l ys → Vals ys its →
    PySem.W.EachIs (fun v (b : Val × PyData) => ∃ y, RV Z.K H m b.1 y ∧ RelV y v) its (l.zip ds) ∧ PySem.W.EachIs (fun v (b : Val × PyData) => ∃ as, Reads s.heap v b.2 as) its (l.zip ds) ∧ (l.zip ds).map (·.2) = ds ∧ (l.zip ds).length = ys.length
  | [], ys, its, ds, h1, h2, h3 => by
    simp only [RVs] at h2
    subst h2
    cases h3
    have e : ds = [] := by simpa using h1.symm
    subst e
    exact ⟨.nil, .nil, rfl, rfl⟩
  | a :: l, ys, its, ds, h1, h2, h3 => by
    simp only [RVs] at h2
    obtain ⟨x, r, rfl, h4, h5⟩ := h2
    obtain ⟨h, _⟩ | ⟨a', r', d, ds', e, e2, h6, h7⟩ := mapM_of h1
    · cases h
    · cases e
      cases h3 with
      | cons rx rt =>
        obtain ⟨q1, _, q3⟩ := toD_ok R n a x d h6 h4
        obtain ⟨as, hr⟩ := Dp.reads I d x _ (by rw [hK]; exact q1) rx
        obtain ⟨e1, e3, e4, e5⟩ := zip_reads hK I R l r _ ds' h7 h5 rt
        subst e2
        exact ⟨.cons ⟨x, h4, rx⟩ e1, .cons ⟨as, hr⟩ e3, by simp [e4], by simp [e5]⟩
theorem each_vals {Z : Zt} {H : Hp} {m : List Addr} : ∀ {out : List Value} {bs : List (Val × PyData)}, PySem.W.EachIs (fun v (b : Val × PyData) => ∃ y, RV Z.K H m b.1 y ∧ RelV y v) out bs → ∃ ys, RVs Z.K H m (bs.map (·.1)) ys ∧ Vals ys out
  | _, _, .nil => ⟨[], RVs.nil, .nil⟩
  | _, _, .cons ⟨y, r1, r2⟩ t => by
    obtain ⟨ys, h1, h2⟩ := each_vals t
    exact ⟨y :: ys, RVs.cons r1 h1, .cons r2 h2⟩
theorem strs_RVs {K : PySem.W.Frag} {H : Hp} {m : List Addr} : ∀ l : List Nat, RVs K H m (l.map fun c => Val.str ⟨#[c]⟩) (l.map fun c => V.str ⟨#[c]⟩)
  | [] => RVs.nil
  | c :: l => RVs.cons (by simp only [RV]) (strs_RVs l)
theorem call_list_strS {X : Cx} (hc : X.calm = true) : CallR X (.type "list") (fun xs H Q => ∃ z : Str, xs = [.str z] ∧ z.cps.size ≤ 16777216 ∧ ∀ p, H p = none → Q (.ref p) (upd H p (.lst (z.cps.toList.map fun c => V.str ⟨#[c]⟩)))) := by
  intro pins s σ H xs us Q I r h
  obtain ⟨z, e, hz, q⟩ := h
  subst e
  obtain ⟨u, eu, rx⟩ := vals1 r
  subst eu
  obtain ⟨t, rfl⟩ := rx
  refine PySem.call_list_str (I.ok.hd hc) z t (hn := by rw [sz]; exact hz) fun h' tk acc' c' hkeep hS hacc => ?_
  refine ⟨.ref s.heap.objs.size, upd H s.heap.objs.size (.lst (z.cps.toList.map fun c => V.str ⟨#[c]⟩)), I.laid hkeep (Nat.le_refl _) (show ObjOk X.prog X.w _ _ _ (.lst (z.cps.toList.map fun c => V.str ⟨#[c]⟩)) from ⟨?_, acc'.toList, c', ?_, ?_⟩), rfl, q _ (I.hok.fresh (Nat.le_refl _))⟩
  · rw [List.length_map, Array.length_toList, sz]; exact hz
  · refine vals_of_at (by rw [List.length_map, Array.length_toList, Array.length_toList, hacc.1]) fun j x w h1 h2 => ?_
    obtain ⟨c, u, h3, rfl⟩ := hacc.2 j w (by rw [← Array.getElem?_toList]; exact h2)
    rw [List.getElem?_map, Array.getElem?_toList, h3] at h1
    cases h1
    exact ⟨u, rfl⟩
  · simpa using hS
theorem callBi (Z : Zt) (X : Cx) (hK : X.K = Z.K) (hc : X.calm = true) (hu : X.A.units + 64 < cLine) : ∀ f : Bi, (isRepr f = true → X.A.guards = some []) → CallR X (biV f) (rBi Z f) := by
  intro f hg pins s σ H xs us Q I rx h
  obtain ⟨m, S, vs, P, R, rv, h, k⟩ := h
  have eT : ∀ {l xs}, SqT Z.K H l xs → SqT X.K H l xs := fun h => by rw [hK]; exact h
  have eL : ∀ {l xs}, SqL Z.K H l xs → SqL X.K H l xs := fun h => by rw [hK]; exact h
  cases f with
  | len =>
    unfold biS at h
    dsimp only at h
    split at h
    · rename_i l
      obtain ⟨x, rfl, r⟩ := rv.one
      simp only [RV] at r
      obtain ⟨a, ys, rfl, hs, r⟩ := r
      exact call_len pins s σ H _ us Q I rx ⟨_, l.length, rfl, .inr ⟨ys, eT hs, r.len⟩, k.int R h⟩
    · rename_i n
      obtain ⟨l, h1, h2⟩ := h
      obtain ⟨x, rfl, r⟩ := rv.one
      simp only [RV] at r
      obtain ⟨a, ha, rfl⟩ := r
      obtain ⟨ys, hs, r⟩ := R.rd h1 ha
      exact call_len pins s σ H _ us Q I rx ⟨_, l.length, rfl, .inl ⟨ys, eL hs, r.len⟩, k.int R h2⟩
    · rename_i z
      obtain ⟨x, rfl, r⟩ := rv.one
      simp only [RV] at r
      subst r
      exact call_len pins s σ H _ us Q I rx ⟨_, z.length, rfl, ⟨by rw [sz]; exact h.1, rfl⟩, k.int R h.2⟩
    · exact h.elim
  | abs =>
    unfold biS at h
    dsimp only at h
    split at h
    · rename_i i
      obtain ⟨x, rfl, r⟩ := rv.one
      simp only [RV] at r
      subst r
      refine call_abs pins s σ H _ us Q I rx ⟨i, rfl, ?_⟩
      have e : (if i < 0 then -i else i) = ((i.natAbs : Nat) : Int) := by split <;> omega
      rw [e]
      exact k.int R h
    · exact h.elim
  | max =>
    unfold biS at h
    dsimp only at h
    split at h
    · rename_i i j
      obtain ⟨x, y, rfl, r1, r2⟩ := rv.two
      simp only [RV] at r1 r2
      subst r1 r2
      refine call_max2 hc pins s σ H _ us Q I rx ⟨i, j, rfl, ?_⟩
      have e : (if j > i then j else i) = max i j := by split <;> omega
      rw [e]
      exact k.int R h
    · rename_i n
      obtain ⟨l, ns, h1, h2, h3, h4⟩ := h
      obtain ⟨x, rfl, r⟩ := rv.one
      simp only [RV] at r
      obtain ⟨a, ha, rfl⟩ := r
      obtain ⟨ys, hs, r⟩ := R.rd h1 ha
      have e := r.ints h2
      subst e
      exact cr_max hc pins s σ H _ us Q I rx ⟨a, ns, rfl, eL hs, List.length_pos_iff.mpr h3, fun M m1 m2 => k.int R (h4 M m1 m2)⟩
    · exact h.elim
  | min =>
    unfold biS at h
    dsimp only at h
    split at h
    · rename_i i j
      obtain ⟨x, y, rfl, r1, r2⟩ := rv.two
      simp only [RV] at r1 r2
      subst r1 r2
      refine call_min2 hc pins s σ H _ us Q I rx ⟨i, j, rfl, ?_⟩
      have e : (if j < i then j else i) = min i j := by split <;> omega
      rw [e]
      exact k.int R h
    · rename_i n
      obtain ⟨x, rfl, r⟩ := rv.one
      simp only [RV] at r
      obtain ⟨a, ha, rfl⟩ := r
      rcases h with ⟨l, ns, h1, h2, h3, h4⟩ | ⟨l, d, ds, h1, h2, h3, h4⟩
      · obtain ⟨ys, hs, r⟩ := R.rd h1 ha
        have e := r.ints h2
        subst e
        exact cr_min hc pins s σ H _ us Q I rx ⟨a, ns, rfl, eL hs, List.length_pos_iff.mpr h3, fun M m1 m2 => k.int R (h4 M m1 m2)⟩
      · obtain ⟨ys, hs, r⟩ := R.rd h1 ha
        obtain rfl := rx.ref1
        obtain ⟨its, rw', ht, _⟩ := I.list (eL hs)
        obtain ⟨as, hr, hd⟩ := all_reads hK I R l ys its (d :: ds) h2 r rw'
        refine PySem.W.min_list_data (I.ok.hd hc) (show s.heap.IsList a its.toArray from ht.isList) (by simpa using hr) h3 (by have := depth_all hd; omega) fun i v h' tk bs hv hrd kk => ?_
        have hv2 : its[i]? = some v := by simpa using hv
        obtain ⟨y, e1, ry⟩ := vals_getV rw' hv2
        obtain ⟨u, e2, ru⟩ := r.getV e1
        obtain ⟨dd, e3, as2, hr2⟩ := one_reads hK I R h2 e2 ru ry
        have e4 : PySem.W.minD d ds = dd := (PyProof.Rows.reads_det (fun b o e _ => kk b o e) hr2 hrd).1
        exact ⟨y, H, I.kept kk, ry, k.same R (h4 u (List.mem_of_getElem? e2) (by rw [e4]; exact e3)) ru⟩
    · exact h.elim
  | sum =>
    unfold biS at h
    dsimp only at h
    split at h
    · rename_i v
      obtain ⟨l, ns, h1, h2, h3⟩ := h
      obtain ⟨x, rfl, r⟩ := rv.one
      cases v with
      | tup l' =>
        simp only [seqOf, Option.some.injEq] at h1
        subst h1
        simp only [RV] at r
        obtain ⟨a, ys, rfl, hs, r⟩ := r
        have e := r.ints h2
        subst e
        exact cr_sumT hc pins s σ H _ us Q I rx ⟨a, ns, rfl, eT hs, k.int R h3⟩
      | obj n =>
        simp only [RV] at r
        obtain ⟨a, ha, rfl⟩ := r
        obtain ⟨ys, hs, r⟩ := R.rd (show rdL S n = some l from h1) ha
        have e := r.ints h2
        subst e
        exact cr_sum hc pins s σ H _ us Q I rx ⟨a, ns, rfl, eL hs, k.int R h3⟩
      | _ => cases h1
    · exact h.elim
  | all =>
    unfold biS at h
    dsimp only at h
    split at h
    · rename_i n
      obtain ⟨l, ns, h1, h2, h3⟩ := h
      obtain ⟨x, rfl, r⟩ := rv.one
      simp only [RV] at r
      obtain ⟨a, ha, rfl⟩ := r
      obtain ⟨ys, hs, r⟩ := R.rd h1 ha
      have e := r.bls h2
      subst e
      exact cr_all hc pins s σ H _ us Q I rx ⟨a, ns, rfl, eL hs, k.bl R h3⟩
    · exact h.elim
  | tuple =>
    unfold biS at h
    dsimp only at h
    split at h
    · rename_i l
      obtain ⟨x, rfl, r⟩ := rv.one
      have r0 := r
      simp only [RV] at r
      obtain ⟨a, ys, rfl, hs, r⟩ := r
      exact call_tuple_of pins s σ H _ us Q I rx ⟨a, ys, rfl, .inr ⟨eT hs, k.same R h r0⟩⟩
    · rename_i n
      obtain ⟨l, h1, h2⟩ := h
      obtain ⟨x, rfl, r⟩ := rv.one
      simp only [RV] at r
      obtain ⟨a, ha, rfl⟩ := r
      obtain ⟨ys, hs, r⟩ := R.rd h1 ha
      exact call_tuple_of pins s σ H _ us Q I rx ⟨a, ys, rfl, .inl ⟨eL hs, fun p hp => k.tup R h2 r hp⟩⟩
    · exact h.elim
  | list =>
    unfold biS at h
    dsimp only at h
    split at h
    · rename_i l
      obtain ⟨x, rfl, r⟩ := rv.one
      simp only [RV] at r
      obtain ⟨a, ys, rfl, hs, r⟩ := r
      exact call_list_of pins s σ H _ us Q I rx ⟨a, ys, rfl, .inr (eT hs), fun p hp => k.alloc R h r hp⟩
    · rename_i z
      obtain ⟨hz, h⟩ := h
      obtain ⟨x, rfl, r⟩ := rv.one
      simp only [RV] at r
      subst r
      exact call_list_strS hc pins s σ H _ us Q I rx ⟨z, rfl, hz, fun p hp => k.alloc R h (strs_RVs _) hp⟩
    · rename_i n
      obtain ⟨l, h1, h2⟩ := h
      obtain ⟨x, rfl, r⟩ := rv.one
      simp only [RV] at r
      obtain ⟨a, ha, rfl⟩ := r
      obtain ⟨ys, hs, r⟩ := R.rd h1 ha
      exact call_list_of pins s σ H _ us Q I rx ⟨a, ys, rfl, .inl (eL hs), fun p hp => k.alloc R h2 r hp⟩
    · exact h.elim
  | repr =>
    unfold biS at h
    dsimp only at h
    split at h
    · rename_i v
      obtain ⟨d, h1, h2, h3, h4⟩ := h
      obtain ⟨x, rfl, r⟩ := rv.one
      obtain ⟨a1, a2, a3⟩ := toD_ok R 60 v x d h1 r
      exact call_repr hK (hg rfl) hu pins s σ H _ us Q I rx ⟨x, d, rfl, a1, a3, a2, h2, h3, k.str R h4⟩
    · exact h.elim
  | sorted =>
    unfold biS at h
    dsimp only at h
    split at h
    · rename_i n
      obtain ⟨x, rfl, r⟩ := rv.one
      simp only [RV] at r
      obtain ⟨a, ha, rfl⟩ := r
      rcases h with ⟨l, ns, h1, h2, h3⟩ | ⟨l, ds, h1, h2, h3, h4, h5⟩
      · obtain ⟨ys, hs, r⟩ := R.rd h1 ha
        have e := r.ints h2
        subst e
        exact cr_sortedI pins s σ H _ us Q I rx ⟨a, ns, rfl, eL hs, fun ns' p q1 q2 hp => k.alloc R (h3 ns' q1 q2) (RVs.of_ints ns') hp⟩
      · obtain ⟨ys, hs, r⟩ := R.rd h1 ha
        obtain rfl := rx.ref1
        obtain ⟨its, rw', ht, hz⟩ := I.list (eL hs)
        obtain ⟨as, hr, hd⟩ := all_reads hK I R l ys its ds h2 r rw'
        obtain ⟨z1, z2, z3, z4⟩ := zip_reads hK I R l ys its ds h2 r rw'
        refine PySem.W.sorted_data (enc := fun p : Val × PyData => p.2) ht.isList z1 z2 (by rw [z3]; exact h3) (by rw [z3]; exact h4) (by rw [z4]; exact hz) (fun b hb => ?_) fun out ho he => ?_
        · have hb2 : b.2 ∈ ds := by rw [← z3]; exact List.mem_map.mpr ⟨b, hb, rfl⟩
          have := hd _ hb2
          omega
        · obtain ⟨ep, he'⟩ := PyProof.Rows.sortedAll_at s.heap its out.toArray
          obtain ⟨ys', r1, r2⟩ := each_vals he
          have hlen : ys'.length ≤ sizeLine := by rw [r2.length, ho, z4]; exact hz
          exact ⟨.ref _, upd H (s.heap.objs.size + 1) (.lst ys'), I.laid (t' := s.toks) (fun _ _ => PyProof.Rows.sortedAll_old) (Nat.le_succ _) ⟨hlen, out, ep, r2, he'⟩, rfl, k.alloc R h5 r1 (I.hok.fresh (Nat.le_succ _))⟩
    · exact h.elim
  | divmod =>
    unfold biS at h
    dsimp only at h
    split at h
    · rename_i i j
      obtain ⟨x, y, rfl, r1, r2⟩ := rv.two
      simp only [RV] at r1 r2
      subst r1 r2
      exact call_divmodB pins s σ H _ us Q I rx ⟨i, j, rfl, h.1, fun p hp => k.tup R h.2 (RVs.cons (by simp only [RV]) (RVs.cons (by simp only [RV]) RVs.nil)) hp⟩
    · exact h.elim
  | int =>
    unfold biS at h
    dsimp only at h
    split at h
    · rename_i i
      obtain ⟨x, rfl, r⟩ := rv.one
      simp only [RV] at r
      subst r
      exact call_int1 pins s σ H _ us Q I rx (.inl ⟨i, rfl, k.int R h⟩)
    · rename_i i
      obtain ⟨x, rfl, r⟩ := rv.one
      simp only [RV] at r
      subst r
      exact call_int1 pins s σ H _ us Q I rx (.inr ⟨i, rfl, k.int R h⟩)
    · exact h.elim
  | str =>
    unfold biS at h
    dsimp only at h
    split at h
    · rename_i i
      obtain ⟨x, rfl, r⟩ := rv.one
      simp only [RV] at r
      subst r
      exact call_str_int pins s σ H _ us Q I rx ⟨i, rfl, h.1, k.str R h.2⟩
    · exact h.elim
/-! ### methods -/
def rMe (Z : Zt) (f : Met) : V → List V → Hp → VK → Prop := fun x xs H Q => ∃ m S o vs P, Rep Z m S H ∧ RV Z.K H m o x ∧ RVs Z.K H m vs xs ∧ metS f o vs S P ∧ KV Z m H P Q
theorem KV.put {Z : Zt} {m : List Addr} {S : Sto} {H : Hp} {P : QV} {Q : VK} (k : KV Z m H P Q) (R : Rep Z m S H) {p : Addr} {n : Nat} {l : List Val} {xs ys : List V} {v : Val} {x : V} (h : P v (S.set n (.lst l))) (hp : H p = some (.lst ys)) (hn : m[n]? = some p) (r : RVs Z.K H m l xs)
    (rv : RV Z.K H m v x) : Q x (upd H p (.lst xs)) := by
  have g : Grow m H m (upd H p (.lst xs)) := Grow.put (List.mem_of_getElem? hn) (by rw [hp]; simp)
  exact k _ _ m _ _ h g (R.put hp hn r) (RV.grow R g _ _ rv)
theorem RVs.dropLast {K : PySem.W.Frag} {H : Hp} {m : List Addr} {l : List Val} {xs : List V} (h : RVs K H m l xs) : RVs K H m l.dropLast xs.dropLast := by
  rw [List.dropLast_eq_take, List.dropLast_eq_take, ← h.len]
  exact h.take _
theorem bls_countP {c : Bool} : ∀ {bs : List Bool} {us : List Value}, Vals (bs.map V.bl) us → us.countP (eqU (V.bl c)) = bs.count c
  | [], _, .nil => rfl
  | b :: bs, _, .cons rb rt => by
    rw [List.countP_cons, List.count_cons, bls_countP rt, eqU_of rb rfl]
    rfl
theorem bls_flat : ∀ bs : List Bool, (bs.map V.bl).all flatV = true
  | [] => rfl
  | _ :: bs => by
    rw [List.map_cons, List.all_cons, bls_flat bs]
    rfl
/-- how often a truth stands in a list of truths -/
theorem mt_countB {X : Cx} : MtR X "list.count" (fun x xs H Q => ∃ (p : Addr) (bs : List Bool) (c : Bool), x = .ref p ∧ xs = [.bl c] ∧ SqL X.K H p (bs.map V.bl) ∧ Q (.int (bs.count c : Nat)) H) := by
  intro pins s σ H x xs v us Q I rx rxs h
  obtain ⟨p, bs, c, e1, e2, hs, q⟩ := h
  subst e1 e2
  cases rx
  obtain ⟨u, rfl, ru⟩ := rxs.one
  obtain ⟨its, rv, ⟨ob, n, ho, hc, hdn, hd⟩, _⟩ := I.list hs
  obtain ⟨oc, od, odt, osl⟩ := ob
  dsimp only at hc hd
  subst hc
  subst hd
  have fit : ∀ y, y ∈ its.toArray → SeqAt.EqAt X.A.in1 s y u (eqU (V.bl c) y) := fun y hy => mem_eqAt ru rfl rv (bls_flat bs) y (by simpa using hy)
  have cnt := bls_countP (c := c) rv
  refine call_meets PySem.F.slot_list_count ⟨_, ho, rfl⟩ PySem.F.entry_list_count (PySem.F.args_list_count_2 _ _) (SeqAt.list_countAt p its.toArray n od osl u (eqU (V.bl c))) ⟨ho, fun y hy => (fit y hy), ?_⟩
  refine ⟨.int (bs.count c : Nat), H, I.tok _, ⟨s.toks, ?_⟩, q⟩
  have e3 : its.toArray.toList.countP (eqU (V.bl c)) = bs.count c := cnt
  rw [← e3]
theorem bls_idx {c : Bool} : ∀ {bs : List Bool}, c ∈ bs → bs[bs.idxOf c]? = some c ∧ ∀ j (b : Bool), j < bs.idxOf c → bs[j]? = some b → b ≠ c
  | [], h => absurd h (by simp)
  | b :: bs, h => by
    by_cases e : b = c
    · subst e
      simp
    · have h2 : c ∈ bs := (List.mem_cons.mp h).resolve_left fun z => e z.symm
      obtain ⟨i1, i2⟩ := bls_idx h2
      have hn : (b == c) = false := by simpa using e
      rw [List.idxOf_cons, hn]
      refine ⟨by simpa using i1, fun j b' hj hb => ?_⟩
      cases j with
      | zero =>
        simp at hb
        subst hb
        exact e
      | succ j => exact i2 j b' (by simpa using hj) (by simpa using hb)
def metV : Met → String
  | .append => "list.append" | .extend => "list.extend" | .pop => "list.pop" | .index => "list.index" | .count => "list.count"
theorem mtMe (Z : Zt) (X : Cx) (hK : X.K = Z.K) : ∀ f : Met, MtR X (metV f) (rMe Z f) := by
  intro f pins s σ H x v xs us Q I rx rxs h
  obtain ⟨m, S, o, vs, P, R, ro, rv, h, k⟩ := h
  cases f with
  | append =>
    unfold metS at h
    dsimp only at h
    split at h
    · rename_i n u
      obtain ⟨l, h1, h2, h3⟩ := h
      obtain ⟨y, rfl, r⟩ := rv.one
      simp only [RV] at ro
      obtain ⟨a, ha, rfl⟩ := ro
      obtain ⟨ys, hs, r2⟩ := R.gt h1 ha
      exact mt_append pins s σ H _ _ _ us Q I rx rxs ⟨a, ys, y, rfl, rfl, hs, by rw [sz, ← r2.len]; exact h2, k.put R h3 hs ha (r2.app (RVs.cons r RVs.nil)) (by simp only [RV])⟩
    · exact h.elim
  | extend =>
    unfold metS at h
    dsimp only at h
    split at h
    · rename_i n u
      obtain ⟨l, l2, h1, h2, h3, h4⟩ := h
      obtain ⟨y, rfl, r⟩ := rv.one
      simp only [RV] at ro r
      obtain ⟨a, ha, rfl⟩ := ro
      obtain ⟨b, hb, rfl⟩ := r
      obtain ⟨ys, hs, r2⟩ := R.gt h1 ha
      obtain ⟨zs, hz, r3⟩ := R.gt h2 hb
      exact mt_extend pins s σ H _ _ _ us Q I rx rxs ⟨a, b, ys, zs, rfl, rfl, hs, hz, by rw [sz, ← r2.len, ← r3.len]; exact h3, k.put R h4 hs ha (r2.app r3) (by simp only [RV])⟩
    · exact h.elim
  | pop =>
    unfold metS at h
    dsimp only at h
    split at h
    · rename_i n
      obtain ⟨l, u, h1, h2, h3⟩ := h
      simp only [RVs] at rv
      subst rv
      simp only [RV] at ro
      obtain ⟨a, ha, rfl⟩ := ro
      obtain ⟨ys, hs, r2⟩ := R.gt h1 ha
      obtain ⟨y, h4, r4⟩ := r2.get h2
      exact mt_pop pins s σ H _ _ _ us Q I rx rxs ⟨a, ys, y, rfl, rfl, hs, by rw [← r2.len]; exact h4, k.put R h3 hs ha r2.dropLast r4⟩
    · rename_i n kk
      obtain ⟨rfl, u, l, h1, h3⟩ := h
      obtain ⟨y0, rfl, r⟩ := rv.one
      simp only [RV] at r
      subst r
      simp only [RV] at ro
      obtain ⟨a, ha, rfl⟩ := ro
      obtain ⟨ys, hs, r2⟩ := R.gt h1 ha
      simp only [RVs] at r2
      obtain ⟨y, ys', rfl, r4, r5⟩ := r2
      exact mt_popAt pins s σ H _ _ _ us Q I rx rxs ⟨a, _, 0, 0, y, rfl, rfl, hs, by decide, by decide, PyProof.Rows.seqIndex?_zero (by simp), rfl, k.put R h3 hs ha r5 r4⟩
    · exact h.elim
  | index =>
    unfold metS at h
    dsimp only at h
    split at h
    · rename_i n c
      obtain ⟨l, bs, h1, h2, hm, h3⟩ := h
      obtain ⟨y, rfl, r⟩ := rv.one
      simp only [RV] at ro r
      obtain ⟨a, ha, rfl⟩ := ro
      subst r
      obtain ⟨ys, hs, r2⟩ := R.rd h1 ha
      have e := r2.bls h2
      subst e
      obtain ⟨i1, i2⟩ := bls_idx hm
      refine mt_index pins s σ H _ _ _ us Q I rx rxs ⟨a, _, _, bs.idxOf c, .bl c, rfl, rfl, by rw [hK]; exact hs, rfl, bls_flat bs, by rw [List.getElem?_map, i1]; rfl, by simp [eqV], fun j z hj hz => ?_, k.int R h3⟩
      rw [List.getElem?_map, Option.map_eq_some_iff] at hz
      obtain ⟨b, hb, rfl⟩ := hz
      have := i2 j b hj hb
      simpa [eqV] using this
    · exact h.elim
  | count =>
    unfold metS at h
    dsimp only at h
    split at h
    · rename_i n i
      obtain ⟨l, ns, h1, h2, h3⟩ := h
      obtain ⟨y, rfl, r⟩ := rv.one
      simp only [RV] at ro r
      obtain ⟨a, ha, rfl⟩ := ro
      subst r
      obtain ⟨ys, hs, r2⟩ := R.rd h1 ha
      have e := r2.ints h2
      subst e
      exact mt_lcount pins s σ H _ _ _ us Q I rx rxs ⟨a, ns, i, rfl, rfl, by rw [hK]; exact hs, k.int R h3⟩
    · rename_i n i
      obtain ⟨l, ns, h1, h2, h3⟩ := h
      obtain ⟨y, rfl, r⟩ := rv.one
      simp only [RV] at ro r
      obtain ⟨a, ha, rfl⟩ := ro
      subst r
      obtain ⟨ys, hs, r2⟩ := R.rd h1 ha
      have e := r2.bls h2
      subst e
      exact mt_countB pins s σ H _ _ _ us Q I rx rxs ⟨a, ns, i, rfl, rfl, by rw [hK]; exact hs, k.int R h3⟩
    · exact h.elim
end Mp

set_option Elab.async false
set_option linter.all false
set_option maxRecDepth 100000
set_option autoImplicit false
/-! Mini8: what loops and comprehensions walk; targets. -/
namespace RE
open PySem PySem.Spec PyProof.Rows L2
set_option maxHeartbeats 1000000 in
theorem meets_enum1 {u : Value} {ob : Obj} {Hq : Heap → Prop} (B : Begins u ob Hq) :
    Meets (Builtin.«enumerate.__new__» ⟨[.type "enumerate", u], []⟩) (fun _ Rq s => Hq s.heap ∧
      Rq (.ok (.ret (.ref (s.heap.push ob).objs.size))) { s with heap := (s.heap.push ob).push { cls := .type "enumerate", data := .fields #[.none, .bool false, .ref s.heap.objs.size, rawInt 0, .none, .none] } }) :=
  .of_wp fun pr wo Ar Rr sh hh => by
    obtain ⟨hp, ge, dr, tk, os⟩ := sh
    obtain ⟨hu, hh⟩ := hh
    have hsub := sub_enumerate
    have goes : ∀ {A1 : Around} {E1 : Value → Shared → Prop} {Q1 : Value → Shared → Prop}, Q1 (.ref hp.objs.size) ⟨hp.push ob, ge, dr, tk, os⟩ → wpAny (model pr wo) A1 (pyIter u) Q1 E1 ⟨hp, ge, dr, tk, os⟩ := fun q => B.iter pr wo _ _ ⟨hp, ge, dr, tk, os⟩ _ hu q
    wp_walk using goes
    refine wpAny_stack_any fun st => wpAny_pure ?_
    split
    · rename_i cl _ _ _ _ _
      cases (cl == Value.type "enumerate")
      · wp_walk using goes
        exact ⟨_, rfl, hh⟩
      · wp_walk using goes
        exact ⟨_, rfl, hh⟩
    · wp_walk using goes
      exact ⟨_, rfl, hh⟩
theorem enum1 {pr : Program} {wo : World} {Ar : Around} {Er : Value → Shared → Prop} {s : Shared} {u : Value} {ob : Obj} {Hq : Heap → Prop} {Q : Value → Shared → Prop} (B : Begins u ob Hq) (hu : Hq s.heap)
    (k : ∀ h1, IsEnum h1 (s.heap.objs.size + 1) s.heap.objs.size 0 .none → h1.get? s.heap.objs.size = some ob →
      (∀ b x, s.heap.get? b = some x → h1.get? b = some x) → Q (.ref (s.heap.objs.size + 1)) { s with heap := h1 }) : wpAny (model pr wo) Ar (call (.type "enumerate") [u]) Q Er s := by
  refine callType_new F.called_enumerate (by decide) (F.typeCall_enumerate_1 _) (F.newCall_enumerate_1 _) (fun ob => F.args_object_init_2 ob _) F.entry_enumerate_new (meets_enum1 B) ⟨hu, ?_⟩
  have zz : (s.heap.push ob).objs.size = s.heap.objs.size + 1 := Heap.size_push ..
  show _ ∧ _
  rw [zz]
  have ie : IsEnum ((s.heap.push ob).push { cls := .type "enumerate", data := .fields #[.none, .bool false, .ref s.heap.objs.size, rawInt 0, .none, .none] }) (s.heap.objs.size + 1) s.heap.objs.size 0 .none := by
    have q := Heap.get?_push_size (s.heap.push ob) (o := { cls := .type "enumerate", data := .fields #[.none, .bool false, .ref s.heap.objs.size, rawInt 0, .none, .none] }) rfl
    rw [zz] at q
    exact q
  exact ⟨⟨_, ie, rfl⟩, k _ ie (Heap.get?_push_of_some _ (Heap.get?_push_size _ B.free)) fun b x q => Heap.get?_push_of_some _ (Heap.get?_push_of_some _ q)⟩
/-- enumerate of the tuple at a -/
def IteT (K : PySem.W.Frag) (a : Addr) : It where
  go := fun i H => ∃ (xs : List V) (x : V), SqT K H a xs ∧ xs[i]? = some x
  yld := fun i H v H' => ∃ T x, v = .ref T ∧ H T = none ∧ H' = upd H T (.tup [.int (i : Nat), x]) ∧ ∀ xs, SqT K H a xs → xs[i]? = some x
  stop := fun i H => ∃ xs : List V, SqT K H a xs ∧ xs.length = i
theorem turn_enumT {P : Program} {w : World} {K : PySem.W.Frag} {tl : List Expr} {tk : Nat} {tp : Pos} (a e j : Addr) :
    Turn P w K (.Tuple tl tk tp) (IteT K a) [e, j] e (fun i h => (∃ old, IsEnum h e j ((i : Nat) : Int) old) ∧ h.IsTupleIter j a i ∧ e ≠ j ∧ a ≠ j ∧ e ≠ a) where
  mem := List.mem_cons_self ..
  obj := fun i h st b hb => by
    obtain ⟨⟨old, he⟩, ⟨oj, hoj, _, hd⟩, _⟩ := st
    rcases List.mem_cons.mp hb with z | z
    · rw [z]
      exact ⟨_, he, fun v q => nomatch q⟩
    · rw [List.mem_singleton.mp z]
      exact ⟨oj, hoj, fun v q => by rw [hd] at q; cases q⟩
  keep := fun i h h1 ⟨⟨old, he⟩, hi, hne⟩ k => ⟨⟨old, k e (by simp) _ he⟩, hi.at fun o q => k j (by simp) o q, hne⟩
  item := by
    intro X hP hw hK hc i pins s σ H E I hf st ⟨xs, x, hq, hx⟩
    subst hP hw hK
    obtain ⟨⟨old, he⟩, hj, n1, n2, n3⟩ := st
    obtain ⟨us, rv, pt, hz⟩ := I.tuple hq
    obtain ⟨u, hu, ru⟩ := rv.get hx
    have pt' : s.heap.IsTuple a us.toArray := pt
    have hlt : i < us.toArray.size := by
      rw [List.size_toArray]
      exact (List.getElem?_eq_some_iff.mp hu).1
    have hel : e < s.heap.objs.size := Heap.lt_size he
    have hjl : j < s.heap.objs.size := by
      obtain ⟨_, q, _⟩ := hj
      exact Heap.lt_size q
    refine wpAny_pyNext_enum_itemC (Draws.tuple (A := X.A.in1) (show _ = _ from I.ok.hd hc) j a n2 us.toArray) he ⟨hj, pt'⟩ hlt n1 (by simp [n1, n3]) fun y h1 tk hy ho hst hT hsz hk => ?_
    have ey : y = u := by
      have q : us[i]? = some y := by simpa using hy
      rw [hu] at q
      exact (Option.some.inj q).symm
    subst ey
    refine ⟨_, rfl, wpAny_letOwnedTupleGo_enum (s := { s with heap := h1, toks := tk + 1 }) ho fun h2 he2 sb => ?_⟩
    have hT2 : h2.get? s.heap.objs.size = some { cls := .type "tuple", data := .seq #[.int (i : Nat) tk, y] } := (sb.2 _ (Nat.ne_of_gt hel)).trans hT
    have new : ObjOk X.prog X.w (upd H s.heap.objs.size (.tup [.int (i : Nat), x])) h2 s.heap.objs.size (.tup [.int (i : Nat), x]) :=
      ⟨show 2 ≤ sizeLine by decide, [.int (i : Nat) tk, y], .cons ⟨_, rfl⟩ (.cons ru .nil), ⟨_, hT2, rfl, _, rfl⟩⟩
    have I1 : Inv X pins σ (upd H s.heap.objs.size (.tup [.int (i : Nat), x])) { s with heap := h2, toks := tk + 1 } :=
      I.turnedNew (ch := [e, j]) (fun b ob hb q => (sb.2 b (fun z => hb (by simp [z]))).trans (hk b ob (fun z => hb (by simp [z])) (fun z => hb (by simp [z])) q)) hf (Nat.le_refl _) new
    refine ⟨.ref s.heap.objs.size, _, I1, rfl, ⟨_, x, rfl, I.hok.fresh (Nat.le_refl _), rfl, fun ys hy => by rw [I.tuple_inj hy hq]; exact hx⟩, ⟨⟨y, ?_⟩, hst.1.at fun o q => (sb.2 j (Ne.symm n1)).trans q, n1, n2, n3⟩, fun b hb => ?_⟩
    · rw [show ((i + 1 : Nat) : Int) = (i : Int) + 1 from by omega]
      exact he2
    · have lb : b < s.heap.objs.size := by
        rcases List.mem_cons.mp hb with z | z
        · rw [z]; exact hel
        · rw [List.mem_singleton.mp z]; exact hjl
      rw [upd_ne (Nat.ne_of_lt lb)]
      exact (hf b hb).1
  done := by
    intro X hP hw hK hc i pins s σ H E I hf st ⟨xs, hq, hx⟩
    subst hP hw hK
    obtain ⟨⟨old, he⟩, hj, n1, n2, n3⟩ := st
    obtain ⟨us, rv, pt, hz⟩ := I.tuple hq
    have pt' : s.heap.IsTuple a us.toArray := pt
    obtain ⟨f0, f1, f2, f3, f4, f5⟩ := hf j (by simp)
    have hl := rv.length
    have hl2 : us.toArray.size = i := by rw [List.size_toArray]; omega
    exact wpAny_pyNext_enum_endD (Draws.tuple (A := X.A.in1) (show _ = _ from I.ok.hd hc) j a n2 us.toArray) he ⟨by rw [hl2]; exact hj, pt'⟩ fun h1 eb => ⟨rfl, I.turned (t' := s.toks) (fun b o hb q => eb b o hb q) f0 f1 f3 f4 f5⟩
  self := fun A i s Q E st h => let ⟨⟨_, he⟩, _⟩ := st; wpAny_pyIter_enum he h
/-- what stands at a: a list or a tuple -/
def Sq (b : Bool) (K : PySem.W.Frag) (H : Hp) (a : Addr) (xs : List V) : Prop := if b = true then SqT K H a xs else SqL K H a xs
def OneAt (b : Bool) (h : Heap) (a : Addr) (us : List Value) : Prop := if b = true then h.IsTuple a us.toArray else h.IsList a us.toArray
def IterAt (b : Bool) (h : Heap) (j a : Addr) (i : Nat) : Prop := if b = true then h.IsTupleIter j a i else h.IsListIter j a i
def ob1 (b : Bool) (a : Addr) : Obj := if b = true then { cls := .type "tuple_iterator", data := .fields #[.ref a, .int 0 0] } else { cls := .type "list_iterator", data := .fields #[.ref a, .int 0 0] }
section
variable {X : Cx} {pins : List (Addr × Obj)} {σ : L2.St} {H : Hp} {s : Shared} {a j : Addr} {xs ys : List V} {b : Bool}
theorem Sq.at1 (I : Inv X pins σ H s) (h : Sq b X.K H a xs) : ∃ us : List Value, Vals xs us ∧ OneAt b s.heap a us ∧ a < s.heap.objs.size := by
  unfold Sq at h
  unfold OneAt
  cases b
  · simp only [Bool.false_eq_true, if_false] at h ⊢
    obtain ⟨us, rv, p, _⟩ := I.list h
    exact ⟨us, rv, p.isList, p.lt⟩
  · simp only [if_true] at h ⊢
    obtain ⟨us, rv, p, _⟩ := I.tuple h
    obtain ⟨o1, ho1, _⟩ := id p
    exact ⟨us, rv, p, Heap.lt_size ho1⟩
theorem Sq.inj (I : Inv X pins σ H s) (h : Sq b X.K H a xs) (h' : Sq b X.K H a ys) : xs = ys := by
  unfold Sq at h h'
  cases b
  · simp only [Bool.false_eq_true, if_false] at h h'
    exact I.list_inj h h'
  · simp only [if_true] at h h'
    exact I.tuple_inj h h'
theorem draws1 {pr : Program} {wo : World} {A : Around} (hh : A.handled = none) (hne : a ≠ j) (us : List Value) : Draws pr wo A j [j, a] us.length (fun i v => us[i]? = some v) (fun i h => IterAt b h j a i ∧ OneAt b h a us) := by
  have e : us.length = us.toArray.size := List.size_toArray.symm
  have e2 : (fun (i : Nat) (v : Value) => us[i]? = some v) = fun i v => us.toArray[i]? = some v := by
    funext i v
    simp
  rw [e, e2]
  unfold IterAt OneAt
  cases b
  · simpa only [Bool.false_eq_true, if_false] using Draws.list hh j a hne us.toArray
  · simpa only [if_true] using Draws.tuple hh j a hne us.toArray
theorem begins1 (us : List Value) : Begins (.ref a) (ob1 b a) fun h => OneAt b h a us := by
  unfold ob1 OneAt
  cases b
  · simpa only [Bool.false_eq_true, if_false] using begins_list a us.toArray
  · simpa only [if_true] using begins_tuple a us.toArray
theorem iter1 {h : Heap} (e : h.get? j = some (ob1 b a)) : IterAt b h j a 0 := by
  unfold ob1 at e
  unfold IterAt
  cases b
  · simp only [Bool.false_eq_true, if_false] at e ⊢
    exact ⟨_, e, rfl, rfl⟩
  · simp only [if_true] at e ⊢
    exact ⟨_, e, rfl, rfl⟩
theorem IterAt.obj {h : Heap} {i : Nat} (st : IterAt b h j a i) : ∃ o, h.get? j = some o ∧ ∀ v, o.data ≠ .cell v := by
  unfold IterAt at st
  cases b
  · simp only [Bool.false_eq_true, if_false] at st
    obtain ⟨o, e, _, d⟩ := st
    exact ⟨o, e, fun v q => by rw [d] at q; cases q⟩
  · simp only [if_true] at st
    obtain ⟨o, e, _, d⟩ := st
    exact ⟨o, e, fun v q => by rw [d] at q; cases q⟩
theorem IterAt.keep {h h1 : Heap} {i : Nat} (st : IterAt b h j a i) (k : ∀ o, h.get? j = some o → h1.get? j = some o) : IterAt b h1 j a i := by
  unfold IterAt at st ⊢
  cases b
  · simp only [Bool.false_eq_true, if_false] at st ⊢
    exact st.at k
  · simp only [if_true] at st ⊢
    exact st.at k
end
/-- zip of two of these -/
def Itz2 (b c : Bool) (K : PySem.W.Frag) (a d : Addr) : It where
  go := fun i H => ∃ (xs ys : List V) (x y : V), Sq b K H a xs ∧ Sq c K H d ys ∧ xs[i]? = some x ∧ ys[i]? = some y
  yld := fun i H v H' => ∃ T x y, v = .ref T ∧ H T = none ∧ H' = upd H T (.tup [x, y]) ∧ (∀ xs, Sq b K H a xs → xs[i]? = some x) ∧ ∀ ys, Sq c K H d ys → ys[i]? = some y
  stop := fun i H => ∃ xs ys : List V, Sq b K H a xs ∧ Sq c K H d ys ∧ i ≤ xs.length ∧ i ≤ ys.length ∧ (i = xs.length ∨ i = ys.length)
theorem turn_zip2 {P : Program} {w : World} {K : PySem.W.Frag} {tl : List Expr} {tk : Nat} {tp : Pos} {b c : Bool} {a d z TI TO i1 i2 : Addr} (D : ZipSep2 z TI TO i1 i2 [i1, a] [i2, d]) (n1 : a ≠ i1) (n2 : d ≠ i2) :
    Turn P w K (.Tuple tl tk tp) (Itz2 b c K a d) [z, TI, TO, i1, i2] z (fun i h => IsZip h z TI TO .none ∧ IsPair h TI (.ref i1) (.ref i2) ∧ (∃ x y, IsPair h TO x y) ∧ IterAt b h i1 a i ∧ IterAt c h i2 d i) where
  mem := List.mem_cons_self ..
  obj := fun i h st x hx => by
    obtain ⟨hz, hTI, ⟨_, _, hTO⟩, h1, h2⟩ := st
    simp only [List.mem_cons, List.not_mem_nil, or_false] at hx
    rcases hx with q | q | q | q | q
    · exact q ▸ ⟨_, hz, fun v e => nomatch e⟩
    · exact q ▸ ⟨_, hTI, fun v e => nomatch e⟩
    · exact q ▸ ⟨_, hTO, fun v e => nomatch e⟩
    · exact q ▸ h1.obj
    · exact q ▸ h2.obj
  keep := fun i h h1 ⟨hz, hTI, ⟨x, y, hTO⟩, p1, p2⟩ k => ⟨k z (by simp) _ hz, k TI (by simp) _ hTI, ⟨x, y, k TO (by simp) _ hTO⟩, p1.keep (k i1 (by simp)), p2.keep (k i2 (by simp))⟩
  item := by
    intro X hP hw hK hc i pins s σ H E I hf st ⟨xs, ys, x, y, hqx, hqy, hx, hy⟩
    subst hP hw hK
    obtain ⟨hz, hTI, ⟨x0, y0, hTO⟩, h1, h2⟩ := st
    obtain ⟨us, rv, p, _⟩ := hqx.at1 I
    obtain ⟨us2, rv2, p2, _⟩ := hqy.at1 I
    obtain ⟨u, hu, ru⟩ := rv.get hx
    obtain ⟨u2, hu2, ru2⟩ := rv2.get hy
    have hh : X.A.in1.handled = none := I.ok.hd hc
    have zl : z < s.heap.objs.size := Heap.lt_size hz
    refine wpAny_pyNext_zipD2_item D (draws1 hh n1 us) (draws1 hh n2 us2) hz hTI hTO ⟨h1, p⟩ ⟨h2, p2⟩ (List.getElem?_eq_some_iff.mp hu).1 (List.getElem?_eq_some_iff.mp hu2).1 fun v1 v2 h' tk e1 e2 z' TO' h1' h2' hT hsz hk => ?_
    rw [hu] at e1
    rw [hu2] at e2
    cases e1
    cases e2
    refine ⟨_, rfl, wpAny_letOwnedTupleGo_zip (s := { s with heap := h', toks := tk }) z' fun h'' z'' sb => ?_⟩
    have hT2 : h''.get? s.heap.objs.size = some { cls := .type "tuple", data := .seq #[u, u2] } := (sb.2 _ (Nat.ne_of_gt zl)).trans hT
    have new : ObjOk X.prog X.w (upd H s.heap.objs.size (.tup [x, y])) h'' s.heap.objs.size (.tup [x, y]) :=
      ⟨show 2 ≤ sizeLine by decide, [u, u2], .cons ru (.cons ru2 .nil), ⟨_, hT2, rfl, _, rfl⟩⟩
    have I1 : Inv X pins σ (upd H s.heap.objs.size (.tup [x, y])) { s with heap := h'', toks := tk } :=
      I.turnedNew (ch := [z, TI, TO, i1, i2]) (fun r o hb q => (sb.2 r fun q' => hb (by simp [q'])).trans (hk r o (fun q' => hb (by simp [q'])) (fun q' => hb (by simp [q'])) (fun q' => hb (by simp [q'])) (fun q' => hb (by simp [q'])) q)) hf (Nat.le_refl _) new
    refine ⟨.ref s.heap.objs.size, _, I1, rfl, ⟨_, x, y, rfl, I.hok.fresh (Nat.le_refl _), rfl, fun l hl => by rw [hl.inj I hqx]; exact hx, fun l hl => by rw [hl.inj I hqy]; exact hy⟩, ⟨z'', ?_, ⟨u, u2, ?_⟩, ?_, ?_⟩, fun r hr => ?_⟩
    · exact (sb.2 _ D.TIz).trans (hk _ _ D.TIz D.TITO D.TIi1 D.TIi2 hTI)
    · exact (sb.2 _ D.TOz).trans TO'
    · exact h1'.1.keep fun o q => (sb.2 _ D.zi1.symm).trans q
    · exact h2'.1.keep fun o q => (sb.2 _ D.zi2.symm).trans q
    · have hlt : r < s.heap.objs.size := by
        simp only [List.mem_cons, List.not_mem_nil, or_false] at hr
        rcases hr with q | q | q | q | q
        · exact q ▸ zl
        · exact q ▸ Heap.lt_size hTI
        · exact q ▸ Heap.lt_size hTO
        · obtain ⟨_, e, _⟩ := h1.obj
          exact q ▸ Heap.lt_size e
        · obtain ⟨_, e, _⟩ := h2.obj
          exact q ▸ Heap.lt_size e
      rw [upd_ne (Nat.ne_of_lt hlt)]
      exact (hf r hr).1
  done := by
    intro X hP hw hK hc i pins s σ H E I hf st ⟨xs, ys, hqx, hqy, l1, l2, hend⟩
    subst hP hw hK
    obtain ⟨hz, hTI, ⟨x0, y0, hTO⟩, h1, h2⟩ := st
    obtain ⟨us, rv, p, _⟩ := hqx.at1 I
    obtain ⟨us2, rv2, p2, _⟩ := hqy.at1 I
    have e1 := rv.length
    have e2 := rv2.length
    have hh : X.A.in1.handled = none := I.ok.hd hc
    exact wpAny_pyNext_zipD2_end D (draws1 hh n1 us) (draws1 hh n2 us2) hz hTI hTO ⟨h1, p⟩ ⟨h2, p2⟩ (by omega) (by omega) (by omega) fun h' tk hk => ⟨rfl, I.turnedL (ch := [z, TI, TO, i1, i2]) (fun r o hb q =>
      hk r o (fun q' => hb (by simp [q'])) (fun q' => hb (by simp [q'])) (fun q' => hb (by simp [q'])) (fun q' => hb (by simp [q'])) q) hf⟩
  self := fun A i s Q E st h => wpAny_pyIter_zip st.1 h
/-- the readings -/
def iEnum2 (K : PySem.W.Frag) (ta : TA) : TI := fun σ H R => ta σ H fun vs H1 => ∃ a xs, vs = [.ref a] ∧ ((SqL K H1 a xs ∧ R (Ite K a) H1) ∨ (SqT K H1 a xs ∧ R (IteT K a) H1))
theorem pi_enum2 {X : Cx} {e : Expr} {ta : TA} {p pos tp : Pos} {tl : List Expr} {tk : Nat} (hg : Gl X "enumerate") (hm : X.mg "enumerate" = none) (ha : PA X [e] ta) (hs : starEach [e] X.env = [(false, eval e X.env)] := by rfl) :
    PI X (.Tuple tl tk tp) (.Call (.Name "enumerate" p) [e] [] pos) (iEnum2 X.K ta) := by
  refine ⟨fun pins s σ H R I h => ?_⟩
  refine Call_ (ld_blt I hg hm boot_enumerate (PyProof.Rows.callWith_type1 (thn (ha.run pos pins s σ H _ I h) fun us s1 ⟨vs, H1, I1, r1, q1⟩ => ?_) hs rfl))
  obtain ⟨a, xs, ex, q1⟩ := q1
  subst ex
  cases r1 with
  | cons r rr =>
    cases rr
    cases r
    have fresh : ∀ b, b ∈ [s1.heap.objs.size + 1, s1.heap.objs.size] → FpOk X pins H1 b := fun b hb => by
      have hle : s1.heap.objs.size ≤ b := by
        rcases List.mem_cons.mp hb with z | z
        · rw [z]; exact Nat.le_add_right _ _
        · rw [List.mem_singleton.mp z]; exact Nat.le_refl _
      exact I1.fpOk hle (I1.hok.fresh hle)
    rcases q1 with ⟨hq, q⟩ | ⟨hq, q⟩
    · obtain ⟨its, rv, p', hz⟩ := I1.list hq
      refine call_enumerate_list p'.isList fun h1 he hit hsz hk => wpAny_pyIter_enum he ?_
      exact ⟨s1.heap.objs.size + 1, _, _, _, H1, rfl, I1.kept (t' := s1.toks) hk, turn_enum a (s1.heap.objs.size + 1) s1.heap.objs.size, ⟨⟨.none, he⟩, hit, Nat.succ_ne_self _⟩, fresh, q⟩
    · obtain ⟨us, rv, pt, hz⟩ := I1.tuple hq
      obtain ⟨o1, ho1, _⟩ := id pt
      have al : a < s1.heap.objs.size := Heap.lt_size ho1
      refine enum1 (begins_tuple a us.toArray) (show s1.heap.IsTuple a us.toArray from pt) fun h1 he hit hk => wpAny_pyIter_enum he ?_
      exact ⟨s1.heap.objs.size + 1, _, _, _, H1, rfl, I1.kept (t' := s1.toks) hk, turn_enumT a (s1.heap.objs.size + 1) s1.heap.objs.size, ⟨⟨.none, he⟩, ⟨_, hit, rfl, rfl⟩, Nat.succ_ne_self _, Nat.ne_of_lt al, Nat.ne_of_gt (Nat.lt_succ_of_lt al)⟩, fresh, q⟩
def iZip2 (K : PySem.W.Frag) (ta : TA) : TI := fun σ H R => ta σ H fun vs H1 => ∃ a d b c xs ys, vs = [.ref a, .ref d] ∧ Sq b K H1 a xs ∧ Sq c K H1 d ys ∧ R (Itz2 b c K a d) H1
theorem pi_zip2 {X : Cx} {e e2 : Expr} {ta : TA} {p pos tp : Pos} {tl : List Expr} {tk : Nat} (hg : Gl X "zip") (hm : X.mg "zip" = none) (ha : PA X [e, e2] ta)
    (hs : starEach [e, e2] X.env = (false, eval e X.env) :: starEach [e2] X.env := by rfl) (hpl : (backTo pos (starEach [e2] X.env)).any (·.1) = false := by rfl) :
    PI X (.Tuple tl tk tp) (.Call (.Name "zip" p) [e, e2] [] pos) (iZip2 X.K ta) := by
  refine ⟨fun pins s σ H R I h => ?_⟩
  refine Call_ (ld_blt I hg hm PyProof.Rows.boot_zip (PyProof.Rows.callWith_type1 (thn (ha.run pos pins s σ H _ I h) fun us s1 ⟨vs, H1, I1, r1, q1⟩ => ?_) hs hpl))
  obtain ⟨a, d, b, c, xs, ys, ex, hq, hq2, q⟩ := q1
  subst ex
  cases r1 with
  | cons r rr =>
    cases rr with
    | cons r' rr =>
      cases rr
      cases r
      cases r'
      obtain ⟨us, rv, pa, la⟩ := hq.at1 I1
      obtain ⟨us2, rv2, pd, ld⟩ := hq2.at1 I1
      refine zip_begins2 (begins1 us) (begins1 us2) pa pd fun h1 hz hTI hTO e1 e2 hsz hk => wpAny_pyIter_zip hz ?_
      refine ⟨s1.heap.objs.size + 4, _, _, _, H1, rfl, I1.kept (t' := s1.toks) hk, turn_zip2 (zip_sep2 (fun x hx => by rw [List.mem_singleton.mp hx]; exact la) fun x hx => by rw [List.mem_singleton.mp hx]; exact ld) (Nat.ne_of_lt la) (Nat.ne_of_lt (Nat.lt_succ_of_lt ld)), ⟨hz, hTI, ⟨_, _, hTO⟩, iter1 e1, iter1 e2⟩, fun x hx => ?_, q⟩
      have hle : s1.heap.objs.size ≤ x := by
        simp only [List.mem_cons, List.not_mem_nil, or_false] at hx
        rcases hx with z | z | z | z | z
        · rw [z]; exact Nat.le_add_right _ _
        · rw [z]; exact Nat.le_add_right _ _
        · rw [z]; exact Nat.le_add_right _ _
        · rw [z]; exact Nat.le_refl _
        · rw [z]; exact Nat.le_add_right _ _
      exact I1.fpOk hle (I1.hok.fresh hle)
section
variable {prog : Program} {w : World} {A : Around} {E : Value → Shared → Prop} {s : Shared} {z TI TO i1 i2 : Addr} {fp1 fp2 : List Addr} {n1 n2 i : Nat} {P1 P2 : Nat → Value → Prop} {St1 St2 : Nat → Heap → Prop}
/-- the next pair, while the tuple T that was given out is held -/
theorem zipH_next_item {T : Addr} {f : Bool} {oT : Obj} {Q : Value → Shared → Prop} (S : ZipSep2 z TI TO i1 i2 fp1 fp2) (D1 : Draws prog w A i1 fp1 n1 P1 St1) (D2 : Draws prog w A i2 fp2 n2 P2 St2)
    (hz : IsZipHeld s.heap z TI TO T f) (hT : s.heap.get? T = some oT) (hTI : IsTupOf2 s.heap TI (.ref i1) (.ref i2)) (st1 : St1 i s.heap) (st2 : St2 i s.heap) (hlt1 : i < n1) (hlt2 : i < n2)
    (hQ : ∀ x1 x2 h' tk, P1 i x1 → P2 i x2 → IsZipHeld h' z TI TO T true → St1 (i + 1) h' → St2 (i + 1) h' → IsTupOf2 h' s.heap.objs.size x1 x2 → h'.objs.size = s.heap.objs.size + 1 →
      (∀ c o, c ≠ z → c ≠ i1 → c ≠ i2 → s.heap.get? c = some o → h'.get? c = some o) → Q (.ref s.heap.objs.size) { s with heap := h', toks := tk }) :
    wpAny (model prog w) A (Builtin.«zip.__next__» ⟨[.ref z], []⟩) (fun fin s' => ∃ v, fin = .done (.ret v) ∧ Q v s') E s := by
  obtain ⟨hp, ge, dr, tk0, os⟩ := s
  show wpAny _ _ (field (.ref z) 2 >>= _) _ _ _
  refine wpAny_bind (wpAny_field hz rfl (x := .bool false) rfl ?_)
  show wpAny _ _ (field (.ref z) 3 >>= _) _ _ _
  refine wpAny_bind (wpAny_field hz rfl (x := .ref TI) rfl ?_)
  refine wpAny_bind (wpAny_seqItems hTI rfl ?_)
  show wpAny _ _ (Builtin.SmallTypes.ownedTupleIsFree (.ref z) >>= _) _ _ _
  refine wpAny_bind (wpAny_tupleHeld_zip hz hT fun g0 hz0 hs0 => ?_)
  replace hs0 : Heap.SameBut z hp g0 := hs0
  simp only [Bool.false_eq_true, if_false]
  refine wpAny_bind ?_
  rw [← Array.forIn_toList]
  simp only [List.forIn_cons, List.forIn_nil]
  refine wpAny_bind (wpAny_bind (wpAny_holding ?_))
  show wpAny _ _ (Builtin.SmallTypes.nextOf (.ref i1) >>= _) _ _ ⟨g0, ge, dr, tk0, os⟩
  refine wpAny_bind (D1.item i _ _ _ hlt1 (D1.over st1 hs0 S.zf1) fun x1 p1 tk1 hx1 sn1 hp1 => wpAny_pure ?_)
  replace hp1 : Heap.SameBut i1 g0 p1 := hp1
  refine wpAny_pure ?_
  refine wpAny_bind (wpAny_bind (wpAny_holding ?_))
  show wpAny _ _ (Builtin.SmallTypes.nextOf (.ref i2) >>= _) _ _ ⟨p1, ge, dr, tk1, os⟩
  refine wpAny_bind (D2.item i _ _ _ hlt2 (D2.over (D2.over st2 hs0 S.zf2) hp1 S.sep1_2) fun x2 p2 tk2 hx2 sn2 hp2 => wpAny_pure ?_)
  replace hp2 : Heap.SameBut i2 p1 p2 := hp2
  refine wpAny_pure (wpAny_pure ?_)
  show wpAny _ _ (newTuple [x1, x2] >>= _) _ _ _
  refine wpAny_bind (wpAny_newTuple ?_)
  have hsz : p2.objs.size = hp.objs.size := by rw [hp2.1, hp1.1, hs0.1]
  have hz3 : IsZipHeld p2 z TI TO T true := hp2.extBut _ _ S.zi2 (hp1.extBut _ _ S.zi1 hz0)
  have hk : ∀ c o, c ≠ z → c ≠ i1 → c ≠ i2 → hp.get? c = some o → p2.get? c = some o := fun c o c1 c2 c3 e => hp2.extBut _ _ c3 (hp1.extBut _ _ c2 (hs0.extBut _ _ c1 e))
  have hj1 : St1 (i + 1) p2 := D1.over sn1 hp2 S.sep2_1
  refine wpAny_pure ⟨_, rfl, ?_⟩
  show Q (.ref p2.objs.size) _
  have hpp : IsTupOf2 (p2.push { cls := .type "tuple", data := .seq #[x1, x2] }) p2.objs.size x1 x2 := Heap.get?_push_size _ rfl
  have hz4 : (p2.push { cls := .type "tuple", data := .seq #[x1, x2] }).objs.size = p2.objs.size + 1 := Heap.size_push ..
  rw [hsz] at hpp hz4 ⊢
  exact hQ x1 x2 _ tk2 hx1 hx2 (Heap.get?_push_of_some _ hz3) (D1.frame _ _ _ hj1 fun b _ o e => Heap.get?_push_of_some _ e) (D2.frame _ _ _ sn2 fun b _ o e => Heap.get?_push_of_some _ e) hpp hz4 fun c o c1 c2 c3 e => Heap.get?_push_of_some _ (hk c o c1 c2 c3 e)
theorem zipH_next_end {T : Addr} {f : Bool} {oT : Obj} {Q : Fin → Shared → Prop} (S : ZipSep2 z TI TO i1 i2 fp1 fp2) (D1 : Draws prog w A i1 fp1 n1 P1 St1) (D2 : Draws prog w A i2 fp2 n2 P2 St2)
    (hz : IsZipHeld s.heap z TI TO T f) (hT : s.heap.get? T = some oT) (hTI : IsTupOf2 s.heap TI (.ref i1) (.ref i2)) (st1 : St1 i s.heap) (st2 : St2 i s.heap) (hle1 : i ≤ n1) (hle2 : i ≤ n2) (hend : i = n1 ∨ i = n2)
    (hE : ∀ h' tk e, (∀ c o, c ≠ z → c ≠ i1 → c ≠ i2 → s.heap.get? c = some o → h'.get? c = some o) → (∃ o, h'.get? e = some o ∧ o.cls = .type "StopIteration") → E (.ref e) { s with heap := h', toks := tk }) :
    wpAny (model prog w) A (Builtin.«zip.__next__» ⟨[.ref z], []⟩) Q E s := by
  obtain ⟨hp, ge, dr, tk0, os⟩ := s
  show wpAny _ _ (field (.ref z) 2 >>= _) _ _ _
  refine wpAny_bind (wpAny_field hz rfl (x := .bool false) rfl ?_)
  show wpAny _ _ (field (.ref z) 3 >>= _) _ _ _
  refine wpAny_bind (wpAny_field hz rfl (x := .ref TI) rfl ?_)
  refine wpAny_bind (wpAny_seqItems hTI rfl ?_)
  show wpAny _ _ (Builtin.SmallTypes.ownedTupleIsFree (.ref z) >>= _) _ _ _
  refine wpAny_bind (wpAny_tupleHeld_zip hz hT fun g0 hz0 hs0 => ?_)
  replace hs0 : Heap.SameBut z hp g0 := hs0
  simp only [Bool.false_eq_true, if_false]
  refine wpAny_bind ?_
  rw [← Array.forIn_toList]
  simp only [List.forIn_cons, List.forIn_nil]
  refine wpAny_bind (wpAny_bind (wpAny_holding ?_))
  show wpAny _ _ (Builtin.SmallTypes.nextOf (.ref i1) >>= _) _ _ ⟨g0, ge, dr, tk0, os⟩
  by_cases hlt1 : i < n1
  · refine wpAny_bind (D1.item i _ _ _ hlt1 (D1.over st1 hs0 S.zf1) fun x1 p1 tk1 hx1 sn1 hp1 => wpAny_pure ?_)
    replace hp1 : Heap.SameBut i1 g0 p1 := hp1
    refine wpAny_pure ?_
    have hi2 : i = n2 := by omega
    refine wpAny_bind (wpAny_bind (wpAny_holding ?_))
    show wpAny _ _ (Builtin.SmallTypes.nextOf (.ref i2) >>= _) _ _ ⟨p1, ge, dr, tk1, os⟩
    refine wpAny_bind (D2.done ⟨p1, ge, dr, tk1, os⟩ _ _ (by rw [← hi2]; exact D2.over (D2.over st2 hs0 S.zf2) hp1 S.sep1_2) fun q e hq he => ?_)
    replace hq : Heap.ExtBut i2 p1 q := hq
    exact hE q tk1 e (fun c o c1 c2 c3 x => hq _ _ c3 (hp1.extBut _ _ c2 (hs0.extBut _ _ c1 x))) he
  · have hi1 : i = n1 := by omega
    refine wpAny_bind (D1.done ⟨g0, ge, dr, tk0, os⟩ _ _ (by rw [← hi1]; exact D1.over st1 hs0 S.zf1) fun q e hq he => ?_)
    replace hq : Heap.ExtBut i1 g0 q := hq
    exact hE q tk0 e (fun c o c1 c2 _ x => hq _ _ c2 (hs0.extBut _ _ c1 x)) he
theorem pyNext_zipH_item {T : Addr} {f : Bool} {oT : Obj} {Q : Option Value → Shared → Prop} (S : ZipSep2 z TI TO i1 i2 fp1 fp2) (D1 : Draws prog w A.in1 i1 fp1 n1 P1 St1) (D2 : Draws prog w A.in1 i2 fp2 n2 P2 St2)
    (hz : IsZipHeld s.heap z TI TO T f) (hT : s.heap.get? T = some oT) (hTI : IsTupOf2 s.heap TI (.ref i1) (.ref i2)) (st1 : St1 i s.heap) (st2 : St2 i s.heap) (hlt1 : i < n1) (hlt2 : i < n2)
    (hQ : ∀ x1 x2 h' tk, P1 i x1 → P2 i x2 → IsZipHeld h' z TI TO T true → St1 (i + 1) h' → St2 (i + 1) h' → IsTupOf2 h' s.heap.objs.size x1 x2 → h'.objs.size = s.heap.objs.size + 1 →
      (∀ c o, c ≠ z → c ≠ i1 → c ≠ i2 → s.heap.get? c = some o → h'.get? c = some o) → Q (some (.ref s.heap.objs.size)) { s with heap := h', toks := tk }) :
    wpAny (model prog w) A (pyNext (.ref z)) Q E s := by
  have hTy : s.TypeIs (.ref z) "zip" := ⟨_, hz, rfl⟩
  unfold pyNext
  exact wpAny_bind (wpAny_attempt (wpAny_callSpecial?_slot (name := Str.ofString "__next__") hTy F.slot_zip_next
    (wpAny_call_entry F.slot_zip_next hTy F.entry_zip_next
      (zipH_next_item S D1 D2 hz hT hTI st1 st2 hlt1 hlt2 fun x1 x2 h' tk y1 y2 b1 b2 b3 b4 b5 b6 => wpAny_pure (hQ x1 x2 h' tk y1 y2 b1 b2 b3 b4 b5 b6)) (F.args_zip_next_1 _))))
theorem pyNext_zipH_end {T : Addr} {f : Bool} {oT : Obj} {Q : Option Value → Shared → Prop} (S : ZipSep2 z TI TO i1 i2 fp1 fp2) (D1 : Draws prog w A.in1 i1 fp1 n1 P1 St1) (D2 : Draws prog w A.in1 i2 fp2 n2 P2 St2)
    (hz : IsZipHeld s.heap z TI TO T f) (hT : s.heap.get? T = some oT) (hTI : IsTupOf2 s.heap TI (.ref i1) (.ref i2)) (st1 : St1 i s.heap) (st2 : St2 i s.heap) (hle1 : i ≤ n1) (hle2 : i ≤ n2) (hend : i = n1 ∨ i = n2)
    (hQ : ∀ h' tk, (∀ c o, c ≠ z → c ≠ i1 → c ≠ i2 → s.heap.get? c = some o → h'.get? c = some o) → Q none { s with heap := h', toks := tk }) : wpAny (model prog w) A (pyNext (.ref z)) Q E s := by
  have hTy : s.TypeIs (.ref z) "zip" := ⟨_, hz, rfl⟩
  unfold pyNext
  refine wpAny_bind (wpAny_attempt (wpAny_callSpecial?_slot (name := Str.ofString "__next__") hTy F.slot_zip_next
    (wpAny_call_entry F.slot_zip_next hTy F.entry_zip_next (zipH_next_end S D1 D2 hz hT hTI st1 st2 hle1 hle2 hend fun h' tk e hk he => ?_) (F.args_zip_next_1 _))))
  obtain ⟨o, ho, hc⟩ := he
  refine wpAny_bind (wpAny_isInstance (T := "StopIteration") (b := true) ⟨o, ho, hc⟩ isSubtype_stop ?_)
  exact wpAny_pure (hQ _ _ hk)
end
/-- the pairs that were made, all above lo -/
structure MadeZ (us us2 : List Value) (lo : Addr) (h : Heap) (as : List Addr) : Prop where
  rise : as.Pairwise (· < ·)
  above : ∀ x ∈ as, lo < x
  pairs : ∀ (j : Nat) (x : Addr), as[j]? = some x → ∃ u v, us[j]? = some u ∧ us2[j]? = some v ∧ h.get? x = some { cls := .type "tuple", data := .seq #[u, v] }
theorem MadeZ.there {us us2 : List Value} {lo : Addr} {h : Heap} {as : List Addr} (g : MadeZ us us2 lo h as) {x : Addr} (hx : x ∈ as) : x < h.objs.size := by
  obtain ⟨j, hj⟩ := List.mem_iff_getElem?.mp hx
  obtain ⟨_, _, _, _, e⟩ := g.pairs j x hj
  exact Heap.lt_size e
/-- the zip behind i pairs -/
def ZSt (b c : Bool) (z TI TO i1 i2 a d : Addr) (us us2 : List Value) (S : Addr) (i : Nat) (h : Heap) : Prop :=
  IsTupOf2 h TI (.ref i1) (.ref i2) ∧ (IterAt b h i1 a i ∧ OneAt b h a us) ∧ (IterAt c h i2 d i ∧ OneAt c h d us2) ∧
  ((IsZip h z TI TO .none ∧ ∃ x y, IsTupOf2 h TO x y) ∨ ∃ T f oT, IsZipHeld h z TI TO T f ∧ h.get? T = some oT ∧ T ≠ z ∧ T ≠ i1 ∧ T ≠ i2 ∧ T ≠ S)
theorem OneAt.keep {b : Bool} {h h' : Heap} {a : Addr} {us : List Value} (x : OneAt b h a us) (k : ∀ o, h.get? a = some o → h'.get? a = some o) : OneAt b h' a us := by
  unfold OneAt at x ⊢
  cases b
  · simp only [Bool.false_eq_true, if_false] at x ⊢
    obtain ⟨o, e, r⟩ := x
    exact ⟨o, k o e, r⟩
  · simp only [if_true] at x ⊢
    obtain ⟨o, e, r⟩ := x
    exact ⟨o, k o e, r⟩
theorem ZSt.keep {b c : Bool} {z TI TO i1 i2 a d : Addr} {us us2 : List Value} {S : Addr} {i : Nat} {h h' : Heap} (x : ZSt b c z TI TO i1 i2 a d us us2 S i h) (hs : z ≠ S ∧ TI ≠ S ∧ TO ≠ S ∧ i1 ≠ S ∧ i2 ≠ S ∧ a ≠ S ∧ d ≠ S)
    (k : ∀ e o, e ≠ S → h.get? e = some o → h'.get? e = some o) : ZSt b c z TI TO i1 i2 a d us us2 S i h' := by
  obtain ⟨n1, n2, n3, n4, n5, n6, n7⟩ := hs
  obtain ⟨h1, ⟨h2, h3⟩, ⟨h4, h5⟩, h6⟩ := x
  refine ⟨k _ _ n2 h1, ⟨h2.keep fun o => k _ o n4, h3.keep fun o => k _ o n6⟩, ⟨h4.keep fun o => k _ o n5, h5.keep fun o => k _ o n7⟩, ?_⟩
  rcases h6 with ⟨h6, x, y, h7⟩ | ⟨T, f, oT, h6, h7, m1, m2, m3, m4⟩
  · exact .inl ⟨k _ _ n1 h6, x, y, k _ _ n3 h7⟩
  · exact .inr ⟨T, f, oT, k _ _ n1 h6, k _ _ m4 h7, m1, m2, m3, m4⟩
section
variable {prog : Program} {w : World} {A : Around} {E : Value → Shared → Prop} {s : Shared} {b c : Bool} {z TI TO i1 i2 a d S : Addr} {us us2 : List Value}
theorem stepZ {i : Nat} {Q : Option Value → Shared → Prop} (hh : A.handled = none) (D : ZipSep2 z TI TO i1 i2 [i1, a] [i2, d]) (n1 : a ≠ i1) (n2 : d ≠ i2) (m1 : a ≠ z ∧ a ≠ TO ∧ a ≠ i2) (m2 : d ≠ z ∧ d ≠ TO ∧ d ≠ i1) (hS : S < s.heap.objs.size)
    (st : ZSt b c z TI TO i1 i2 a d us us2 S i s.heap) (hl1 : i < us.length) (hl2 : i < us2.length)
    (hQ : ∀ h' tk u v, us[i]? = some u → us2[i]? = some v → ZSt b c z TI TO i1 i2 a d us us2 S (i + 1) h' → h'.get? s.heap.objs.size = some { cls := .type "tuple", data := .seq #[u, v] } → h'.objs.size = s.heap.objs.size + 1 →
      (∀ e o, e ≠ z → e ≠ TO → e ≠ i1 → e ≠ i2 → s.heap.get? e = some o → h'.get? e = some o) → Q (some (.ref s.heap.objs.size)) { s with heap := h', toks := tk }) :
    wpAny (model prog w) A (pyNext (.ref z)) Q E s := by
  obtain ⟨hTI, h1, h2, hz⟩ := st
  have hh1 : A.in1.handled = none := hh
  have lt : ∀ {e o}, s.heap.get? e = some o → s.heap.objs.size ≠ e := fun e => Nat.ne_of_gt (Heap.lt_size e)
  have g1 : s.heap.objs.size ≠ i1 := let ⟨_, e, _⟩ := h1.1.obj; lt e
  have g2 : s.heap.objs.size ≠ i2 := let ⟨_, e, _⟩ := h2.1.obj; lt e
  rcases hz with ⟨hz, x, y, hTO⟩ | ⟨T, f, oT, hz, hT, r1, r2, r3, r4⟩
  · refine wpAny_pyNext_zipD2_item D (draws1 hh1 n1 us) (draws1 hh1 n2 us2) hz hTI hTO h1 h2 hl1 hl2 fun v1 v2 h' tk e1 e2 z' TO' h1' h2' hT hsz hk => ?_
    refine hQ h' tk v1 v2 e1 e2 ⟨hk _ _ D.TIz D.TITO D.TIi1 D.TIi2 hTI, h1', h2', .inr ⟨s.heap.objs.size, false, _, z', hT, lt hz, g1, g2, Nat.ne_of_gt hS⟩⟩ hT hsz hk
  · refine pyNext_zipH_item D (draws1 hh1 n1 us) (draws1 hh1 n2 us2) hz hT hTI h1 h2 hl1 hl2 fun v1 v2 h' tk e1 e2 z' h1' h2' hT' hsz hk => ?_
    refine hQ h' tk v1 v2 e1 e2 ⟨hk _ _ D.TIz D.TIi1 D.TIi2 hTI, h1', h2', .inr ⟨T, true, oT, z', hk _ _ r1 r2 r3 hT, r1, r2, r3, r4⟩⟩ hT' hsz fun e o c1 _ c3 c4 q => hk e o c1 c3 c4 q
theorem stopZ {i : Nat} {Q : Option Value → Shared → Prop} (hh : A.handled = none) (D : ZipSep2 z TI TO i1 i2 [i1, a] [i2, d]) (n1 : a ≠ i1) (n2 : d ≠ i2)
    (st : ZSt b c z TI TO i1 i2 a d us us2 S i s.heap) (hl1 : i ≤ us.length) (hl2 : i ≤ us2.length) (hend : i = us.length ∨ i = us2.length)
    (hQ : ∀ h' tk, (∀ e o, e ≠ z → e ≠ TO → e ≠ i1 → e ≠ i2 → s.heap.get? e = some o → h'.get? e = some o) → Q none { s with heap := h', toks := tk }) :
    wpAny (model prog w) A (pyNext (.ref z)) Q E s := by
  obtain ⟨hTI, h1, h2, hz⟩ := st
  have hh1 : A.in1.handled = none := hh
  rcases hz with ⟨hz, x, y, hTO⟩ | ⟨T, f, oT, hz, hT, r1, r2, r3, r4⟩
  · exact wpAny_pyNext_zipD2_end D (draws1 hh1 n1 us) (draws1 hh1 n2 us2) hz hTI hTO h1 h2 hl1 hl2 hend fun h' tk hk => hQ h' tk hk
  · exact pyNext_zipH_end D (draws1 hh1 n1 us) (draws1 hh1 n2 us2) hz hT hTI h1 h2 hl1 hl2 hend fun h' tk hk => hQ h' tk fun e o c1 _ c3 c4 q => hk e o c1 c3 c4 q
end
section
variable {prog : Program} {w : World} {A : Around} {s : Shared} {R : Result → Shared → Prop} {b c : Bool} {z TI TO i1 i2 a d S : Addr} {us us2 : List Value}
theorem loopZ (hh : A.handled = none) (D : ZipSep2 z TI TO i1 i2 [i1, a] [i2, d]) (n1 : a ≠ i1) (n2 : d ≠ i2) (m1 : a ≠ z ∧ a ≠ TO ∧ a ≠ i2) (m2 : d ≠ z ∧ d ≠ TO ∧ d ≠ i1) (hs : z ≠ S ∧ TI ≠ S ∧ TO ≠ S ∧ i1 ≠ S ∧ i2 ≠ S ∧ a ≠ S ∧ d ≠ S) (lo : z < S ∧ TO < S ∧ i1 < S ∧ i2 < S)
    (hn : min us.length us2.length ≤ sizeLine) (res : Value) {h₁ : Heap}
    (hR : ∀ h' tk acc cc as, (∀ e o, e ≠ S → e ≠ z → e ≠ TO → e ≠ i1 → e ≠ i2 → h₁.get? e = some o → h'.get? e = some o) → h'.get? S = some { cls := .type "list", dict := none, data := .seq acc cc, slots := #[] } → as.length = min us.length us2.length → MadeZ us us2 S h' as →
      acc.toList = as.map Value.ref → R (.ok (.ret res)) { s with heap := h', toks := tk }) :
    ∀ (k i : Nat) (h : Heap) (tk cc : Nat) (acc : Array Value) (as : List Addr), min us.length us2.length - i = k → i ≤ min us.length us2.length → ZSt b c z TI TO i1 i2 a d us us2 S i h → (∀ e o, e ≠ S → e ≠ z → e ≠ TO → e ≠ i1 → e ≠ i2 → h₁.get? e = some o → h.get? e = some o) →
      h.get? S = some { cls := .type "list", dict := none, data := .seq acc cc, slots := #[] } → acc.toList = as.map Value.ref → as.length = i → MadeZ us us2 S h as →
      codeAny (model prog w) A (.builtin "list.extend.loop" ⟨[.ref S, .ref z, res], []⟩) R { s with heap := h, toks := tk } := by
  intro k
  induction k with
  | zero =>
    intro i h tk cc acc as hk hi hst hkeep hS hacc hal hG
    refine codeAny_builtin PySem.F.entry_extend_loop ?_
    rw [Around.under_plainId PySem.F.plain_extend_loop _]
    show wpAny _ A.in1 (pyNext (.ref z) >>= _) _ _ _
    refine wpAny_bind (stopZ (s := { s with heap := h, toks := tk }) (A := A.in1) hh D n1 n2 hst (by omega) (by omega) (by omega) fun h' tk' he => ?_)
    refine wpAny_pure (hR h' tk' acc cc as (fun e o c1 c2 c3 c4 c5 q => he e o c2 c3 c4 c5 (hkeep e o c1 c2 c3 c4 c5 q)) (he S _ (Ne.symm hs.1) (Ne.symm hs.2.2.1) (Ne.symm hs.2.2.2.1) (Ne.symm hs.2.2.2.2.1) hS) (by omega) ⟨hG.rise, hG.above, fun j x hj => ?_⟩ hacc)
    obtain ⟨u, v, e1, e2, e3⟩ := hG.pairs j x hj
    have hx := hG.above x (List.mem_of_getElem? hj)
    exact ⟨u, v, e1, e2, he x _ (Nat.ne_of_gt (Nat.lt_trans lo.1 hx)) (Nat.ne_of_gt (Nat.lt_trans lo.2.1 hx)) (Nat.ne_of_gt (Nat.lt_trans lo.2.2.1 hx)) (Nat.ne_of_gt (Nat.lt_trans lo.2.2.2 hx)) e3⟩
  | succ k ih =>
    intro i h tk cc acc as hk hi hst hkeep hS hacc hal hG
    have hl1 : i < us.length := by omega
    have hl2 : i < us2.length := by omega
    have hsz : acc.size = i := by rw [← Array.length_toList, hacc, List.length_map, hal]
    refine codeAny_builtin PySem.F.entry_extend_loop ?_
    rw [Around.under_plainId PySem.F.plain_extend_loop _]
    show wpAny _ A.in1 (pyNext (.ref z) >>= _) _ _ _
    refine wpAny_bind (stepZ (s := { s with heap := h, toks := tk }) (A := A.in1) hh D n1 n2 m1 m2 (Heap.lt_size hS) hst hl1 hl2 fun h' tk' u v e1 e2 hst' ht hz hkp => ?_)
    dsimp only at ht hz hkp ⊢
    have hS' := hkp S _ (Ne.symm hs.1) (Ne.symm hs.2.2.1) (Ne.symm hs.2.2.2.1) (Ne.symm hs.2.2.2.2.1) hS
    have up : ∀ e o, e ≠ S → h'.get? e = some o → (h'.update S (Obj.mapSeq (·.push (Value.ref h.objs.size)))).get? e = some o := fun e o hb q => (Heap.get?_update_other _ _ (Ne.symm hb)).trans q
    have hSl : S < h.objs.size := Heap.lt_size hS
    show wpAny _ A.in1 (updateSeq S (·.push (Value.ref h.objs.size)) >>= _) _ _ _
    refine wpAny_bind ?_
    refine wpAny_updateSeq hS' rfl (wpAny_pure ⟨plainId_quiet PySem.F.plain_extend_loop _, ih (i + 1) _ tk' _ (acc.push (Value.ref h.objs.size)) (as ++ [h.objs.size]) (by omega) (by omega) (hst'.keep hs up)
      (fun e o c1 c2 c3 c4 c5 q => up e o c1 (hkp e o c2 c3 c4 c5 (hkeep e o c1 c2 c3 c4 c5 q))) (Heap.get?_update_self _ hS' rfl) (by rw [Array.toList_push, hacc, List.map_append]; rfl) (by rw [List.length_append, hal]; rfl) ⟨?_, ?_, ?_⟩⟩) (by rw [hsz]; omega) (by show (acc.push (Value.ref h.objs.size)).size ≤ sizeLine + 1; rw [Array.size_push, hsz]; omega)
    · refine List.pairwise_append.mpr ⟨hG.rise, List.pairwise_singleton _ _, fun x hx y hy => ?_⟩
      rw [List.mem_singleton.mp hy]
      exact hG.there hx
    · intro x hx
      rcases List.mem_append.mp hx with hx | hx
      · exact hG.above x hx
      · rw [List.mem_singleton.mp hx]; exact hSl
    · intro j x hj
      rcases Nat.lt_trichotomy j as.length with q1 | q1 | q1
      · rw [List.getElem?_append_left q1] at hj
        obtain ⟨u', v', f1, f2, f3⟩ := hG.pairs j x hj
        have hx := hG.above x (List.mem_of_getElem? hj)
        exact ⟨u', v', f1, f2, up x _ (Nat.ne_of_gt hx) (hkp x _ (Nat.ne_of_gt (Nat.lt_trans lo.1 hx)) (Nat.ne_of_gt (Nat.lt_trans lo.2.1 hx)) (Nat.ne_of_gt (Nat.lt_trans lo.2.2.1 hx)) (Nat.ne_of_gt (Nat.lt_trans lo.2.2.2 hx)) f3)⟩
      · subst q1
        have hb : h.objs.size = x := by simpa using hj
        subst hb
        subst hal
        exact ⟨u, v, e1, e2, up _ _ (Nat.ne_of_gt hSl) ht⟩
      · have hnone : (as ++ [h.objs.size])[j]? = none := List.getElem?_eq_none (by rw [List.length_append, List.length_singleton]; omega)
        rw [hnone] at hj; cases hj
end
theorem zip_no_len : typeLookup (.type "zip") "__len__" = pure none := am_miss_of_fast (by decide +kernel)
theorem zip_no_hint : typeLookup (.type "zip") "__length_hint__" = pure none := am_miss_of_fast (by decide +kernel)
section
variable {prog : Program} {w : World} {A : Around} {E : Value → Shared → Prop} {s : Shared} {b c : Bool} {z TI TO i1 i2 a d : Addr} {us us2 : List Value}
theorem initZ {S : Addr} {R : Result → Shared → Prop} (hh : A.handled = none) (D : ZipSep2 z TI TO i1 i2 [i1, a] [i2, d]) (n1 : a ≠ i1) (n2 : d ≠ i2) (m1 : a ≠ z ∧ a ≠ TO ∧ a ≠ i2) (m2 : d ≠ z ∧ d ≠ TO ∧ d ≠ i1)
    (hs : z ≠ S ∧ TI ≠ S ∧ TO ≠ S ∧ i1 ≠ S ∧ i2 ≠ S ∧ a ≠ S ∧ d ≠ S) (lo : z < S ∧ TO < S ∧ i1 < S ∧ i2 < S)
    (hz : IsZip s.heap z TI TO .none) (hst : ZSt b c z TI TO i1 i2 a d us us2 S 0 s.heap) (hn : min us.length us2.length ≤ sizeLine) (hS : s.heap.get? S = some { cls := .type "list", data := .seq #[] })
    (hR : ∀ h' tk acc cc as, (∀ e o, e ≠ S → e ≠ z → e ≠ TO → e ≠ i1 → e ≠ i2 → s.heap.get? e = some o → h'.get? e = some o) → h'.get? S = some { cls := .type "list", dict := none, data := .seq acc cc, slots := #[] } → as.length = min us.length us2.length → MadeZ us us2 S h' as →
      acc.toList = as.map Value.ref → R (.ok (.ret .none)) { s with heap := h', toks := tk }) :
    wpAny (model prog w) A.in1 (Builtin.«list.__init__» ⟨[.ref S, .ref z], []⟩)
      (fun fin s' => match fin with | .done f => R (.ok f) s' | .again c' => c'.quiet = true ∧ codeAny (model prog w) A c' R s') (fun e s' => R (.error e) s') s := by
  show wpAny _ _ (do let old ← Builtin.List.listItems (.ref S); Builtin.List.listUpdate (.ref S) (fun _ => #[]); letGo old.toList.reverse; Builtin.List.listExtendWith (.ref S) (.ref z) .none) _ _ s
  refine wpAny_bind ?_
  unfold Builtin.List.listItems
  refine wpAny_bind (wpAny_seqItems hS rfl (wpAny_pure ?_))
  show wpAny _ _ (updateSeq S (fun _ => #[]) >>= fun _ => letGo (#[] : Array Value).toList.reverse >>= fun _ => Builtin.List.listExtendWith (.ref S) (.ref z) .none) _ _ s
  refine wpAny_bind (wpAny_updateSeq hS rfl ?_)
  have hS₂ := Heap.get?_update_self (Obj.mapSeq (fun _ => (#[] : Array Value))) hS rfl
  have oth : ∀ e o, e ≠ S → s.heap.get? e = some o → (s.heap.update S (Obj.mapSeq (fun _ => (#[] : Array Value)))).get? e = some o :=
    fun e o hb q => (Heap.get?_update_other _ _ (Ne.symm hb)).trans q
  refine wpAny_bind (wpAny_letGo ?_)
  have key : ∀ (h : Heap) (c₁ tk : Nat), (∀ e o, e ≠ S → s.heap.get? e = some o → h.get? e = some o) →
      h.get? S = some { cls := .type "list", data := .seq #[] c₁ } → codeAny (model prog w) A (.builtin "list.extend.loop" ⟨[.ref S, .ref z, .none], []⟩) R { s with heap := h, toks := tk } := by
    intro h c₁ tk hk hS₁
    exact loopZ (s := s) (h₁ := s.heap) (b := b) (c := c) (us := us) (us2 := us2) hh D n1 n2 m1 m2 hs lo hn .none hR
      (min us.length us2.length) 0 h tk c₁ #[] [] (Nat.sub_zero _) (Nat.zero_le _) (hst.keep hs hk) (fun e o c1 _ _ _ _ x => hk e o c1 x) hS₁ rfl rfl ⟨List.Pairwise.nil, (fun _ hx => nomatch hx), fun j x hj => by simp at hj⟩
  have hT : ∀ {h : Heap} tk, (∀ e o, e ≠ S → s.heap.get? e = some o → h.get? e = some o) → Shared.TypeIs { s with heap := h, toks := tk } (.ref z) "zip" := fun {h} tk q => ⟨_, q _ _ hs.1 hz, rfl⟩
  unfold Builtin.List.listExtendWith
  refine wpAny_bind (wpAny_typeOf (T := "zip") (hT s.toks oth) ?_)
  have q1 : Builtin.List.listSameRef (.ref S) (.ref z) = false := by simp [Builtin.List.listSameRef, Nat.ne_of_gt lo.1]
  have q2 : (Value.type "zip" == Value.type "list") = false := by decide
  have q3 : (Value.type "zip" == Value.type "tuple") = false := by decide
  simp only [q1, q2, q3, Bool.or_false, Bool.false_eq_true, if_false]
  refine wpAny_bind (wpAny_pyIter_zip (s := { s with heap := _ }) (oth _ _ hs.1 hz) ?_)
  refine wpAny_bind (wpAny_holding ?_)
  unfold Builtin.List.listLengthHint
  refine wpAny_bind (wpAny_specialOf (hT s.toks oth) zip_no_len ?_)
  show wpAny _ _ (specialOf (Value.ref z) (Str.ofString "__length_hint__") >>= _) _ _ _
  refine wpAny_bind (wpAny_specialOf (hT s.toks oth) zip_no_hint ?_)
  refine wpAny_pure ?_
  refine wpAny_ite_split (fun _ => ?_) (fun _ => wpAny_pure ⟨plainId_quiet PySem.F.plain_extend_loop _, key _ _ _ oth hS₂⟩)
  refine wpAny_bind (wpAny_rule ?_)
  refine wpAny_bind ?_
  show wpAny _ _ (updateSeq S (·.push .none) >>= fun _ => updateSeq S (·.pop)) _ _ _
  refine wpAny_bind (wpAny_updateSeq hS₂ rfl ?_)
  have hS₃ := Heap.get?_update_self (Obj.mapSeq (·.push Value.none)) hS₂ rfl
  refine wpAny_updateSeq (hz := by seq_fits) hS₃ rfl ?_
  have hS₄ := Heap.get?_update_self (Obj.mapSeq (·.pop)) hS₃ rfl
  refine wpAny_pure ⟨plainId_quiet PySem.F.plain_extend_loop _, key _ _ _ (fun e o hb q => ?_) hS₄⟩
  exact (Heap.get?_update_other _ _ (Ne.symm hb)).trans ((Heap.get?_update_other _ _ (Ne.symm hb)).trans (oth e o hb q))
/-- list(z), z a zip that nobody has asked -/
theorem call_list_zip {Q : Value → Shared → Prop} (hh : A.handled = none) (D : ZipSep2 z TI TO i1 i2 [i1, a] [i2, d]) (n1 : a ≠ i1) (n2 : d ≠ i2) (m1 : a ≠ z ∧ a ≠ TO ∧ a ≠ i2) (m2 : d ≠ z ∧ d ≠ TO ∧ d ≠ i1)
    (hz : IsZip s.heap z TI TO .none) (hTI : IsTupOf2 s.heap TI (.ref i1) (.ref i2)) (hTO : ∃ x y, IsTupOf2 s.heap TO x y) (h1 : IterAt b s.heap i1 a 0) (h2 : IterAt c s.heap i2 d 0) (ha : OneAt b s.heap a us) (hd : OneAt c s.heap d us2) (hn : min us.length us2.length ≤ sizeLine)
    (hQ : ∀ h' tk acc cc as, (∀ e o, e ≠ z → e ≠ TO → e ≠ i1 → e ≠ i2 → s.heap.get? e = some o → h'.get? e = some o) → h'.get? s.heap.objs.size = some { cls := .type "list", dict := none, data := .seq acc cc, slots := #[] } → as.length = min us.length us2.length → MadeZ us us2 s.heap.objs.size h' as →
      acc.toList = as.map Value.ref → Q (.ref s.heap.objs.size) { s with heap := h', toks := tk }) :
    wpAny (model prog w) A (call (.type "list") [.ref z]) Q E s := by
  obtain ⟨x0, y0, hTO⟩ := hTO
  have lz : z < s.heap.objs.size := Heap.lt_size hz
  have lTI : TI < s.heap.objs.size := Heap.lt_size hTI
  have lTO : TO < s.heap.objs.size := Heap.lt_size hTO
  have l1 : i1 < s.heap.objs.size := let ⟨_, e, _⟩ := h1.obj; Heap.lt_size e
  have l2 : i2 < s.heap.objs.size := let ⟨_, e, _⟩ := h2.obj; Heap.lt_size e
  have la : a < s.heap.objs.size := by
    unfold OneAt at ha
    split at ha <;> exact let ⟨_, e, _⟩ := ha; Heap.lt_size e
  have ld : d < s.heap.objs.size := by
    unfold OneAt at hd
    split at hd <;> exact let ⟨_, e, _⟩ := hd; Heap.lt_size e
  refine callType_codes (Q₁ := fun obj s₁ => obj = .ref s.heap.objs.size ∧ s₁ = { s with heap := s.heap.push { cls := .type "list", data := .seq #[] } }) F.called_list (F.typeCall_list_1 _) F.entry_list_init
    (code_list_new _ ⟨rfl, rfl⟩) fun obj s₁ h₁ => ?_
  obtain ⟨rfl, rfl⟩ := h₁
  have hS : (s.heap.push { cls := .type "list", data := .seq #[] }).get? s.heap.objs.size = some { cls := .type "list", data := .seq #[] } := Heap.get?_push_size _ rfl
  have up : ∀ e o, s.heap.get? e = some o → (s.heap.push { cls := .type "list", data := .seq #[] }).get? e = some o := fun e o x => Heap.get?_push_of_some _ x
  refine ⟨⟨_, hS, rfl⟩, F.args_list_init_2 _ _, initZ (A := A.in1) (b := b) (c := c) (us := us) (us2 := us2) hh D n1 n2 m1 m2 ⟨Nat.ne_of_lt lz, Nat.ne_of_lt lTI, Nat.ne_of_lt lTO, Nat.ne_of_lt l1, Nat.ne_of_lt l2, Nat.ne_of_lt la, Nat.ne_of_lt ld⟩ ⟨lz, lTO, l1, l2⟩ (up _ _ hz) ?_ hn hS
    (fun h' tk acc cc as hk hS' hl hG hacc => ⟨rfl, hQ h' tk acc cc as (fun e o c1 c2 c3 c4 x => hk e o (Nat.ne_of_lt (Heap.lt_size x)) c1 c2 c3 c4 (up e o x)) hS' hl hG hacc⟩)⟩
  exact ⟨up _ _ hTI, ⟨h1.keep (up _), ha.keep (up _)⟩, ⟨h2.keep (up _), hd.keep (up _)⟩, .inl ⟨up _ _ hz, x0, y0, up _ _ hTO⟩⟩
end
theorem Sq.size {X : Cx} {pins : List (Addr × Obj)} {σ : L2.St} {H : Hp} {s : Shared} {a : Addr} {xs : List V} {b : Bool} (h : Sq b X.K H a xs) (I : Inv X pins σ H s) : xs.length ≤ sizeLine := by
  unfold Sq at h
  cases b
  · simp only [Bool.false_eq_true, if_false] at h
    obtain ⟨us, rv, p, hz⟩ := I.list h
    exact hz
  · simp only [if_true] at h
    obtain ⟨us, rv, p, hz⟩ := I.tuple h
    exact hz
/-- tuples that are tracked from here on -/
def trkT (H : Hp) : List (Addr × List V) → Hp
  | [] => H
  | q :: r => upd (trkT H r) q.1 (.tup q.2)
theorem trkT_out {H : Hp} {x : Addr} : ∀ {ps : List (Addr × List V)}, x ∉ ps.map (·.1) → trkT H ps x = H x
  | [], _ => rfl
  | q :: r, h => by
    rw [List.map_cons, List.mem_cons, not_or] at h
    show upd _ _ _ _ = _
    rw [upd_ne h.1]
    exact trkT_out h.2
theorem trkT_in {H : Hp} {x : Addr} : ∀ {ps : List (Addr × List V)}, x ∈ ps.map (·.1) → ∃ q ∈ ps, q.1 = x ∧ trkT H ps x = some (.tup q.2)
  | q :: r, h => by
    by_cases e : x = q.1
    · exact ⟨q, List.mem_cons_self, e.symm, by rw [e]; exact upd_same⟩
    · have h' : x ∈ r.map (·.1) := by
        rw [List.map_cons, List.mem_cons] at h
        exact h.resolve_left e
      obtain ⟨p, hp, e1, e2⟩ := trkT_in (H := H) h'
      exact ⟨p, List.mem_cons_of_mem _ hp, e1, by show upd _ _ _ _ = _; rw [upd_ne e]; exact e2⟩
/-- many new objects are tracked at once -/
theorem laidAll {X : Cx} {pins : List (Addr × Obj)} {σ : L2.St} {H H' : Hp} {s : Shared} {h' : Heap} {t' : Nat} (I : Inv X pins σ H s) (k : ∀ e u, s.heap.get? e = some u → h'.get? e = some u) (hs : ∀ e o, H e = some o → H' e = some o) (hn : ∀ e, e < s.heap.objs.size → H e = none → H' e = none)
    (new : ∀ e o, H e = none → H' e = some o → ObjOk X.prog X.w H' h' e o) : Inv X pins σ H' { s with heap := h', toks := t' } := by
  refine I.un ⟨fun b u q _ _ _ => k b u q, fun b u q _ _ _ => ⟨u.slots, k b u q⟩, fun b u q n _ => hn b (Heap.lt_size q) n, fun b u q _ => ⟨u, k b u q⟩, fun b xs q => hs b _ q, fun b o u q => hs b _ q, fun b ps q => ⟨#[], by rw [hs b _ q]; simp⟩⟩ fun e o he => ?_
  cases q : H e with
  | none => exact new e o q he
  | some u =>
    rw [show o = u from Option.some.inj (he.symm.trans (hs e u q))]
    exact (I.hok e u q).stay (fun c v _ z => k c v z) (fun c z => hs c _ z) fun c xs z => hs c _ z
def pairsV : List V → List V → List (List V)
  | x :: l, y :: k => [x, y] :: pairsV l k
  | _, _ => []
theorem pairsV_len : ∀ l k : List V, (pairsV l k).length = min l.length k.length
  | [], _ => by simp [pairsV]
  | _ :: _, [] => by simp [pairsV]
  | x :: l, y :: k => by simp [pairsV, pairsV_len l k]
theorem pairsV_get : ∀ {l k : List V} {j : Nat} {p : List V}, (pairsV l k)[j]? = some p → ∃ x y, l[j]? = some x ∧ k[j]? = some y ∧ p = [x, y]
  | [], _, _, _, h => by simp [pairsV] at h
  | _ :: _, [], _, _, h => by simp [pairsV] at h
  | x :: l, y :: k, 0, p, h => by
    simp [pairsV] at h
    exact ⟨x, y, rfl, rfl, h.symm⟩
  | x :: l, y :: k, j + 1, p, h => by
    simp only [pairsV, List.getElem?_cons_succ] at h ⊢
    exact pairsV_get h
def tListZip (K : PySem.W.Frag) (ta : TA) : TE := fun σ H Q => ta σ H fun vs H1 => ∃ a d b c xs ys, vs = [.ref a, .ref d] ∧ Sq b K H1 a xs ∧ Sq c K H1 d ys ∧
  ∀ (as : List Addr) (p : Addr), as.length = min xs.length ys.length → as.Nodup → (∀ x ∈ as, H1 x = none) → p ∉ as → H1 p = none → Q (.ref p) (upd (trkT H1 (as.zip (pairsV xs ys))) p (.lst (as.map .ref)))
theorem pe_listZip {X : Cx} {e e2 : Expr} {ta : TA} {p pos p2 pos2 : Pos} (hc : X.calm = true) (hgl : Gl X "list") (hml : X.mg "list" = none) (hg : Gl X "zip") (hm : X.mg "zip" = none) (ha : PA X [e, e2] ta)
    (hs : starEach [e, e2] X.env = (false, eval e X.env) :: starEach [e2] X.env := by rfl) (hpl : (backTo pos2 (starEach [e2] X.env)).any (·.1) = false := by rfl) :
    PE X (.Call (.Name "list" p) [.Call (.Name "zip" p2) [e, e2] [] pos2] [] pos) (tListZip X.K ta) := by
  refine ⟨fun pins s σ H Q I h => ?_⟩
  refine Call_ (ld_blt I hgl hml (show bootBuiltins (Str.ofString "list") = some (.type "list") by decide +kernel) (PyProof.Rows.callWith_type1 (Calls.spliced_cons ?_) rfl rfl))
  refine Call_ (ld_blt I hg hm PyProof.Rows.boot_zip (PyProof.Rows.callWith_type1 (thn (ha.run pos2 pins s σ H _ I h) fun us s1 ⟨vs, H1, I1, r1, q1⟩ => ?_) hs hpl))
  obtain ⟨a, d, b, c, xs, ys, ex, hq, hq2, q⟩ := q1
  subst ex
  cases r1 with
  | cons r rr =>
    cases rr with
    | cons r' rr =>
      cases rr
      cases r
      cases r'
      obtain ⟨us, rv, pa, la⟩ := hq.at1 I1
      obtain ⟨us2, rv2, pd, ld⟩ := hq2.at1 I1
      refine zip_begins2 (begins1 us) (begins1 us2) pa pd fun h1 hz hTI hTO e1 e2 hsz hk => Calls.spliced_nil ?_
      have lus : us.length ≤ sizeLine := rv.length ▸ hq.size I1
      have up : ∀ {x n : Nat}, x < n → ∀ k, x ≠ n + k := fun h k => by omega
      refine call_list_zip (s := { s1 with heap := h1 }) (b := b) (c := c) (us := us) (us2 := us2) (show _ = _ from I1.ok.hd hc) (zip_sep2 (fun x hx => by rw [List.mem_singleton.mp hx]; exact la) fun x hx => by rw [List.mem_singleton.mp hx]; exact ld) (Nat.ne_of_lt la) (up ld 1) ⟨up la 4, up la 3, up la 1⟩ ⟨up ld 4, up ld 3, Nat.ne_of_lt ld⟩ hz hTI ⟨_, _, hTO⟩ (iter1 e1) (iter1 e2)
        (pa.keep (hk _)) (pd.keep (hk _)) (Nat.le_trans (Nat.min_le_left _ _) lus) fun h' tk acc cc as hk' hS' hl hG hacc => ?_
      have hsz' : ({ s1 with heap := h1 } : Shared).heap.objs.size = s1.heap.objs.size + 5 := hsz
      rw [hsz'] at hS' hG ⊢
      have keep : ∀ x o, s1.heap.get? x = some o → h'.get? x = some o := fun x o e => by
        have hx : x < s1.heap.objs.size := Heap.lt_size e
        exact hk' x o (up hx 4) (up hx 3) (Nat.ne_of_lt hx) (up hx 1) (hk x o e)
      have nin : s1.heap.objs.size + 5 ∉ as := fun h => Nat.lt_irrefl _ (hG.above _ h)
      have fr : ∀ x ∈ as, H1 x = none := fun x hx => I1.hok.fresh (Nat.le_trans (Nat.le_add_right _ 5) (Nat.le_of_lt (hG.above x hx)))
      have nd : as.Nodup := hG.rise.imp fun h => Nat.ne_of_lt h
      have lxy : as.length = min xs.length ys.length := by rw [hl, rv.length, rv2.length]
      have emap : (as.zip (pairsV xs ys)).map (·.1) = as := by
        rw [List.map_fst_zip (by rw [pairsV_len, lxy]; exact Nat.le_refl _)]
      refine ⟨.ref (s1.heap.objs.size + 5), _, laidAll (s := s1) (t' := tk) I1 keep (fun x o e => ?_) (fun x hx e => ?_) (fun x o e1' e2' => ?_), rfl, q as (s1.heap.objs.size + 5) lxy nd fr nin (I1.hok.fresh (Nat.le_add_right _ 5))⟩
      · have hx : x < s1.heap.objs.size := (I1.hok x o e).lt
        rw [upd_ne (up hx 5), trkT_out (by rw [emap]; exact fun hm => by have := fr x hm; rw [e] at this; cases this)]
        exact e
      · rw [upd_ne (up hx 5), trkT_out (by rw [emap]; exact fun hm => Nat.lt_irrefl _ (Nat.lt_trans (Nat.lt_of_le_of_lt (Nat.le_add_right _ 5) (hG.above x hm)) hx))]
        exact e
      · by_cases ex : x = s1.heap.objs.size + 5
        · subst ex
          rw [upd_same] at e2'
          cases e2'
          refine ⟨by rw [List.length_map, hl]; exact Nat.le_trans (Nat.min_le_left _ _) lus, as.map Value.ref, cc, ?_, ?_⟩
          · have : ∀ l : List Addr, Vals (l.map V.ref) (l.map Value.ref) := fun l => by
              induction l with
              | nil => exact .nil
              | cons x l ih => exact .cons rfl ih
            exact this as
          · rw [hS', ← hacc]
        · rw [upd_ne ex] at e2'
          by_cases hm : x ∈ as
          · obtain ⟨q', hq', eq1, eq2⟩ := trkT_in (H := H1) (x := x) (ps := as.zip (pairsV xs ys)) (by rw [emap]; exact hm)
            rw [eq2] at e2'
            cases e2'
            obtain ⟨j, hj⟩ := List.mem_iff_getElem?.mp hq'
            rw [List.getElem?_zip_eq_some] at hj
            obtain ⟨j1, j2⟩ := hj
            rw [eq1] at j1
            obtain ⟨u, v, f1, f2, f3⟩ := hG.pairs j x j1
            obtain ⟨x1, y1, g1, g2, g3⟩ := pairsV_get j2
            obtain ⟨u', f1', ru⟩ := rv.get g1
            obtain ⟨v', f2', rv'⟩ := rv2.get g2
            rw [f1] at f1'
            rw [f2] at f2'
            cases f1'
            cases f2'
            rw [g3]
            exact ⟨show 2 ≤ sizeLine by decide, [u, v], .cons ru (.cons rv' .nil), ⟨_, f3, rfl, _, rfl⟩⟩
          · rw [trkT_out (by rw [emap]; exact hm), e1'] at e2'
            cases e2'
end RE
namespace Mp
open PySem PySem.Spec PyProof.Rows L2
/-- an iterator of the items l, while g holds of the store -/
structure Wk (Z : Zt) (l : List Val) (g : Sto → Prop) (m : List Addr) (H : Hp) (J : It) : Prop where
  len : l.length ≤ 16777216
  ex : ∃ G Y, Walk J l.length G Y ∧ (∀ m1 S1 H1, Grow m H m1 H1 → Rep Z m1 S1 H1 → g S1 → G H1) ∧
    ∀ i v m1 S1 H1 x H2, l[i]? = some v → Grow m H m1 H1 → Rep Z m1 S1 H1 → g S1 → Y i H1 x H2 → Grow m1 H1 m1 H2 ∧ Rep Z m1 S1 H2 ∧ RV Z.K H2 m1 v x
section
variable {Z : Zt} {m : List Addr} {S : Sto} {H : Hp}
theorem Rep.rdn {Z : Zt} {m m1 : List Addr} {S1 : Sto} {H H1 : Hp} {n : Nat} {l : List Val} {a : Addr} (g : Grow m H m1 H1) (R : Rep Z m1 S1 H1) (h : rdL S1 n = some l) (ha : m[n]? = some a) : ∃ xs, SqL Z.K H1 a xs ∧ RVs Z.K H1 m1 l xs := R.rd h (g.get ha)
theorem wk_list {n : Nat} {l : List Val} {a : Addr} (ha : m[n]? = some a) (hl : l.length ≤ 16777216) : Wk Z l (fun S' => rdL S' n = some l) m H (Itl Z.K a) := by
  refine ⟨hl, fun H1 => ∃ xs, SqL Z.K H1 a xs ∧ xs.length = l.length, fun i H1 x H2 => H2 = H1 ∧ ∀ xs, SqL Z.K H1 a xs → xs[i]? = some x, ⟨?_, ?_, ?_⟩, ?_, ?_⟩
  · rintro i H1 hi ⟨xs, h1, h2⟩
    exact ⟨xs, xs[i], h1, List.getElem?_eq_getElem (by omega)⟩
  · rintro H1 ⟨xs, h1, h2⟩
    exact ⟨xs, h1, by omega⟩
  · rintro i H1 x H2 hi ⟨xs, h1, h2⟩ y
    exact y
  · intro m1 S1 H1 g R hg
    obtain ⟨xs, h1, h2⟩ := Rep.rdn g R hg ha
    exact ⟨xs, h1, h2.len.symm⟩
  · intro i v m1 S1 H1 x H2 hv g R hg hy
    obtain ⟨e, hy⟩ := hy
    subst e
    obtain ⟨xs, h1, h2⟩ := Rep.rdn g R hg ha
    obtain ⟨x', e1, e2⟩ := h2.get hv
    have e3 := hy xs h1
    rw [e1] at e3
    cases e3
    exact ⟨Grow.refl, R, e2⟩
theorem wk_tup {l : List Val} {xs : List V} {a : Addr} (R0 : Rep Z m S H) (hs : SqT Z.K H a xs) (r : RVs Z.K H m l xs) (hl : l.length ≤ 16777216) : Wk Z l (fun _ => True) m H (Itt Z.K a) := by
  refine ⟨hl, fun H1 => SqT Z.K H1 a xs, fun i H1 x H2 => H2 = H1 ∧ xs[i]? = some x, ⟨?_, ?_, ?_⟩, ?_, ?_⟩
  · intro i H1 hi h1
    exact ⟨xs, xs[i]'(by rw [← r.len]; exact hi), h1, List.getElem?_eq_getElem _⟩
  · intro H1 h1
    exact ⟨xs, h1, by rw [r.len]; exact Nat.le_refl _⟩
  · rintro i H1 x H2 hi h1 ⟨e, y⟩
    exact ⟨e, y xs h1⟩
  · intro m1 S1 H1 g R _
    exact R0.tup_keep g hs
  · intro i v m1 S1 H1 x H2 hv g R _ hy
    obtain ⟨e, hy⟩ := hy
    subst e
    obtain ⟨x', e1, e2⟩ := r.get hv
    rw [hy] at e1
    cases e1
    exact ⟨Grow.refl, R, RV.grow R0 g _ _ e2⟩
theorem wk_str {z : Str} (hl : z.cps.size ≤ 16777216) : Wk Z (chars z) (fun _ => True) m H (Its z) := by
  have len : (chars z).length = z.cps.size := by unfold chars; rw [List.length_map, Array.length_toList]
  refine ⟨by rw [len]; exact hl, fun _ => True, fun i H x H' => H' = H ∧ ∃ c, z.cps[i]? = some c ∧ x = .str ⟨#[c]⟩, by rw [len]; exact walk_str, fun _ _ _ _ _ _ => trivial, ?_⟩
  intro i v m1 S1 H1 x H2 hv g R _ hy
  obtain ⟨e, c, hc, ex⟩ := hy
  subst e ex
  refine ⟨Grow.refl, R, ?_⟩
  unfold chars at hv
  rw [List.getElem?_map, Array.getElem?_toList, hc] at hv
  cases hv
  simp only [RV]
theorem rgV_len (i : Int) (n : Nat) : (Mp.rgV i n).length = n := by unfold Mp.rgV; rw [List.length_map, List.length_range]
theorem rgV_at {i : Int} {n k : Nat} {v : Val} (h : (Mp.rgV i n)[k]? = some v) : v = .int (i + (k : Nat)) := by
  unfold Mp.rgV at h
  rw [List.getElem?_map, Option.map_eq_some_iff] at h
  obtain ⟨j, h1, h2⟩ := h
  obtain ⟨hj, h1⟩ := List.getElem?_eq_some_iff.mp h1
  rw [List.getElem_range] at h1
  rw [← h2, ← h1]
theorem wk_rng {i : Int} {n : Nat} (hl : n ≤ 16777216) : Wk Z (Mp.rgV i n) (fun _ => True) m H (Itr i n) := by
  refine ⟨by rw [rgV_len]; exact hl, fun _ => True, fun k H x H' => H' = H ∧ x = .int (i + k), by rw [rgV_len]; exact walk_range, fun _ _ _ _ _ _ => trivial, ?_⟩
  intro k v m1 S1 H1 x H2 hv g R _ hy
  obtain ⟨e, ex⟩ := hy
  subst e ex
  rw [rgV_at hv]
  exact ⟨Grow.refl, R, by simp only [RV]⟩
theorem rgVc_len (i c : Int) (n : Nat) : (rgVc i c n).length = n := by unfold rgVc; rw [List.length_map, List.length_range]
theorem rgVc_at {i c : Int} {n k : Nat} {v : Val} (h : (rgVc i c n)[k]? = some v) : v = .int (i + (k : Nat) * c) := by
  unfold rgVc at h
  rw [List.getElem?_map, Option.map_eq_some_iff] at h
  obtain ⟨j, h1, h2⟩ := h
  obtain ⟨hj, h1⟩ := List.getElem?_eq_some_iff.mp h1
  rw [List.getElem_range] at h1
  rw [← h2, ← h1]
theorem wk_rngC {i c : Int} {n : Nat} (hl : n ≤ 16777216) : Wk Z (rgVc i c n) (fun _ => True) m H (Itc i c n) := by
  refine ⟨by rw [rgVc_len]; exact hl, fun _ => True, fun k H x H' => H' = H ∧ x = .int (i + (k : Nat) * c), by rw [rgVc_len]; exact walk_rangeC, fun _ _ _ _ _ _ => trivial, ?_⟩
  intro k v m1 S1 H1 x H2 hv g R _ hy
  obtain ⟨e, ex⟩ := hy
  subst e ex
  rw [rgVc_at hv]
  exact ⟨Grow.refl, R, by simp only [RV]⟩
theorem enumV_len : ∀ (l : List Val) (k : Nat), (enumV k l).length = l.length
  | [], _ => rfl
  | v :: l, k => by unfold enumV; rw [List.length_cons, List.length_cons, enumV_len l]
theorem enumV_at : ∀ (l : List Val) (k i : Nat) {v : Val}, (enumV k l)[i]? = some v → ∃ u, l[i]? = some u ∧ v = .tup [.int ((k + i : Nat) : Int), u]
  | [], _, _, _, h => by simp [enumV] at h
  | u :: l, k, 0, v, h => by
    simp [enumV] at h
    exact ⟨u, rfl, by rw [← h]; rfl⟩
  | u :: l, k, i + 1, v, h => by
    have h : (enumV (k + 1) l)[i]? = some v := by simpa [enumV] using h
    obtain ⟨w, h1, h2⟩ := enumV_at l (k + 1) i h
    exact ⟨w, by simpa using h1, by rw [h2]; congr 3; omega⟩
/-- a new pair -/
theorem new_pair {Z : Zt} {m : List Addr} {S : Sto} {H : Hp} (R : Rep Z m S H) {T : Addr} {x y : V} {v u : Val} (hT : H T = none) (rx : RV Z.K H m v x) (ry : RV Z.K H m u y) : Grow m H m (upd H T (.tup [x, y])) ∧ Rep Z m S (upd H T (.tup [x, y])) ∧ RV Z.K (upd H T (.tup [x, y])) m (.tup [v, u]) (.ref T) := by
  have g : Grow m H m (upd H T (.tup [x, y])) := Grow.new hT
  refine ⟨g, R.new hT, ?_⟩
  simp only [RV]
  exact ⟨T, [x, y], rfl, SqT.of upd_same, RVs.cons (RV.grow R g _ _ rx) (RVs.cons (RV.grow R g _ _ ry) RVs.nil)⟩
theorem wk_enum {n : Nat} {l : List Val} {a : Addr} (ha : m[n]? = some a) (hl : l.length ≤ 16777216) : Wk Z (enumV 0 l) (fun S' => rdL S' n = some l) m H (Ite Z.K a) := by
  refine ⟨by rw [enumV_len]; exact hl, fun H1 => ∃ xs, SqL Z.K H1 a xs ∧ xs.length = l.length, fun i H1 v H2 => ∃ T x, v = .ref T ∧ H1 T = none ∧ H2 = upd H1 T (.tup [.int (i : Nat), x]) ∧ ∀ xs, SqL Z.K H1 a xs → xs[i]? = some x, ⟨?_, ?_, ?_⟩, ?_, ?_⟩
  · rintro i H1 hi ⟨xs, h1, h2⟩
    rw [enumV_len] at hi
    exact ⟨xs, xs[i], h1, List.getElem?_eq_getElem (by omega)⟩
  · rintro H1 ⟨xs, h1, h2⟩
    exact ⟨xs, h1, by rw [enumV_len]; omega⟩
  · rintro i H1 x H2 hi _ y
    exact y
  · intro m1 S1 H1 g R hg
    obtain ⟨xs, h1, h2⟩ := Rep.rdn g R hg ha
    exact ⟨xs, h1, h2.len.symm⟩
  · intro i v m1 S1 H1 x H2 hv g R hg hy
    obtain ⟨T, y, rfl, hT, rfl, hy⟩ := hy
    obtain ⟨u, hu, rfl⟩ := enumV_at l 0 i hv
    obtain ⟨xs, h1, h2⟩ := Rep.rdn g R hg ha
    obtain ⟨x', e1, e2⟩ := h2.get hu
    have e3 := hy xs h1
    rw [e1] at e3
    cases e3
    exact new_pair R hT (by simp only [RV]; rw [Nat.zero_add]) e2
theorem zipV_len : ∀ (l k : List Val), (zipV l k).length = min l.length k.length
  | [], _ => by simp [zipV]
  | _ :: _, [] => by simp [zipV]
  | v :: l, u :: k => by
    have := zipV_len l k
    simp only [zipV, List.length_cons]
    omega
theorem zipV_at : ∀ (l k : List Val) (i : Nat) {v : Val}, (zipV l k)[i]? = some v → ∃ u w, l[i]? = some u ∧ k[i]? = some w ∧ v = .tup [u, w]
  | [], _, _, _, h => by simp [zipV] at h
  | _ :: _, [], _, _, h => by simp [zipV] at h
  | u :: l, w :: k, 0, v, h => by
    simp [zipV] at h
    exact ⟨u, w, rfl, rfl, h.symm⟩
  | u :: l, w :: k, i + 1, v, h => by
    have h : (zipV l k)[i]? = some v := by simpa [zipV] using h
    obtain ⟨a, b, h1, h2, h3⟩ := zipV_at l k i h
    exact ⟨a, b, by simpa using h1, by simpa using h2, h3⟩
theorem wk_enumT {l : List Val} {xs : List V} {a : Addr} (R0 : Rep Z m S H) (hs : SqT Z.K H a xs) (r : RVs Z.K H m l xs) (hl : l.length ≤ 16777216) : Wk Z (enumV 0 l) (fun _ => True) m H (RE.IteT Z.K a) := by
  refine ⟨by rw [enumV_len]; exact hl, fun H1 => SqT Z.K H1 a xs, fun i H1 v H2 => ∃ T x, v = .ref T ∧ H1 T = none ∧ H2 = upd H1 T (.tup [.int (i : Nat), x]) ∧ xs[i]? = some x, ⟨?_, ?_, ?_⟩, ?_, ?_⟩
  · intro i H1 hi h1
    rw [enumV_len, r.len] at hi
    exact ⟨xs, xs[i], h1, List.getElem?_eq_getElem hi⟩
  · intro H1 h1
    exact ⟨xs, h1, by rw [enumV_len]; exact r.len.symm⟩
  · rintro i H1 x H2 hi h1 ⟨T, y, e1, e2, e3, hy⟩
    exact ⟨T, y, e1, e2, e3, hy xs h1⟩
  · intro m1 S1 H1 g R _
    exact R0.tup_keep g hs
  · intro i v m1 S1 H1 x H2 hv g R _ hy
    obtain ⟨T, y, rfl, hT, rfl, hy⟩ := hy
    obtain ⟨u, hu, rfl⟩ := enumV_at l 0 i hv
    obtain ⟨x', e1, e2⟩ := r.get hu
    rw [hy] at e1
    cases e1
    exact new_pair R hT (by simp only [RV]; rw [Nat.zero_add]) (RV.grow R0 g _ _ e2)
/-- what is zipped -/
def Side (Z : Zt) (b : Bool) (m : List Addr) (H : Hp) (a : Addr) (l : List Val) (g : Sto → Prop) : Prop := ∀ m1 S1 H1, Grow m H m1 H1 → Rep Z m1 S1 H1 → g S1 → ∃ xs, RE.Sq b Z.K H1 a xs ∧ RVs Z.K H1 m1 l xs
theorem side_tup {l : List Val} {xs : List V} {a : Addr} (R0 : Rep Z m S H) (hs : SqT Z.K H a xs) (r : RVs Z.K H m l xs) : Side Z true m H a l (fun _ => True) := fun _ _ _ g _ _ => ⟨xs, R0.tup_keep g hs, RVs.grow R0 g _ _ r⟩
theorem side_lst {l : List Val} {n : Nat} {a : Addr} (ha : m[n]? = some a) : Side Z false m H a l (fun S' => rdL S' n = some l) := fun _ _ _ g R hg => Rep.rdn g R hg ha
theorem wk_zip2 {b c : Bool} {l k : List Val} {g1 g2 g : Sto → Prop} {a d : Addr} (s1 : Side Z b m H a l g1) (s2 : Side Z c m H d k g2) (hg : ∀ S, g S → g1 S ∧ g2 S) (hl : l.length ≤ 16777216) : Wk Z (zipV l k) g m H (RE.Itz2 b c Z.K a d) := by
  refine ⟨by rw [zipV_len]; omega, fun H1 => ∃ xs ys, RE.Sq b Z.K H1 a xs ∧ RE.Sq c Z.K H1 d ys ∧ xs.length = l.length ∧ ys.length = k.length, fun i H1 v H2 => ∃ T x y, v = .ref T ∧ H1 T = none ∧ H2 = upd H1 T (.tup [x, y]) ∧ (∀ xs, RE.Sq b Z.K H1 a xs → xs[i]? = some x) ∧ ∀ ys, RE.Sq c Z.K H1 d ys → ys[i]? = some y, ⟨?_, ?_, ?_⟩, ?_, ?_⟩
  · rintro i H1 hi ⟨xs, ys, h1, h2, h3, h4⟩
    rw [zipV_len] at hi
    exact ⟨xs, ys, xs[i], ys[i], h1, h2, List.getElem?_eq_getElem (by omega), List.getElem?_eq_getElem (by omega)⟩
  · rintro H1 ⟨xs, ys, h1, h2, h3, h4⟩
    exact ⟨xs, ys, h1, h2, by rw [zipV_len]; omega, by rw [zipV_len]; omega, by rw [zipV_len]; omega⟩
  · rintro i H1 x H2 hi _ y
    exact y
  · intro m1 S1 H1 gr R hh
    obtain ⟨xs, h1, h2⟩ := s1 _ _ _ gr R (hg _ hh).1
    obtain ⟨ys, h3, h4⟩ := s2 _ _ _ gr R (hg _ hh).2
    exact ⟨xs, ys, h1, h3, h2.len.symm, h4.len.symm⟩
  · intro i v m1 S1 H1 x H2 hv gr R hh hy
    obtain ⟨T, y, z, rfl, hT, rfl, hy, hz⟩ := hy
    obtain ⟨u, w, hu, hw, rfl⟩ := zipV_at l k i hv
    obtain ⟨xs, h1, h2⟩ := s1 _ _ _ gr R (hg _ hh).1
    obtain ⟨ys, h3, h4⟩ := s2 _ _ _ gr R (hg _ hh).2
    obtain ⟨x', e1, e2⟩ := h2.get hu
    obtain ⟨y', f1, f2⟩ := h4.get hw
    have e3 := hy xs h1
    rw [e1] at e3
    cases e3
    have f3 := hz ys h3
    rw [f1] at f3
    cases f3
    exact new_pair R hT e2 f2
theorem wk_revL {n : Nat} {l : List Val} {xs : List V} {a : Addr} (ha : m[n]? = some a) (hx : xs.length = l.length) (hl : l.length ≤ 16777216) : Wk Z l.reverse (fun S' => rdL S' n = some l) m H (Itv Z.K a xs.length) := by
  refine ⟨by rw [List.length_reverse]; exact hl, fun H1 => ∃ xs, SqL Z.K H1 a xs ∧ xs.length = l.length, fun i H1 x H2 => H2 = H1 ∧ ∀ ys, SqL Z.K H1 a ys → ys[xs.length - 1 - i]? = some x, ⟨?_, ?_, ?_⟩, ?_, ?_⟩
  · rintro i H1 hi ⟨ys, h1, h2⟩
    rw [List.length_reverse] at hi
    exact ⟨by omega, ys, ys[xs.length - 1 - i]'(by omega), h1, List.getElem?_eq_getElem _⟩
  · rintro H1 ⟨ys, h1, h2⟩
    show xs.length ≤ l.reverse.length
    rw [List.length_reverse]
    omega
  · rintro i H1 x H2 hi _ y
    exact y
  · intro m1 S1 H1 g R hg
    obtain ⟨xs, h1, h2⟩ := Rep.rdn g R hg ha
    exact ⟨xs, h1, h2.len.symm⟩
  · intro i v m1 S1 H1 x H2 hv g R hg hy
    obtain ⟨e, hy⟩ := hy
    subst e
    obtain ⟨ys, h1, h2⟩ := Rep.rdn g R hg ha
    have hi : i < l.length := by
      have := (List.getElem?_eq_some_iff.mp hv).1
      rwa [List.length_reverse] at this
    rw [List.getElem?_reverse hi] at hv
    obtain ⟨x', e1, e2⟩ := h2.get hv
    have e3 := hy ys h1
    rw [hx, e1] at e3
    cases e3
    exact ⟨Grow.refl, R, e2⟩
theorem wk_revT {l : List Val} {xs : List V} {a : Addr} (R0 : Rep Z m S H) (hs : SqT Z.K H a xs) (r : RVs Z.K H m l xs) (hl : l.length ≤ 16777216) : Wk Z l.reverse (fun _ => True) m H (RT.ItvT Z.K a xs.length) := by
  have hx := r.len
  refine ⟨by rw [List.length_reverse]; exact hl, fun H1 => SqT Z.K H1 a xs, fun i H1 x H2 => H2 = H1 ∧ xs[xs.length - 1 - i]? = some x, ⟨?_, ?_, ?_⟩, ?_, ?_⟩
  · intro i H1 hi h1
    rw [List.length_reverse] at hi
    exact ⟨by omega, xs, xs[xs.length - 1 - i]'(by omega), h1, List.getElem?_eq_getElem _⟩
  · intro H1 h1
    show xs.length ≤ l.reverse.length
    rw [List.length_reverse]
    omega
  · rintro i H1 x H2 hi h1 ⟨e, y⟩
    exact ⟨e, y xs h1⟩
  · intro m1 S1 H1 g R _
    exact R0.tup_keep g hs
  · intro i v m1 S1 H1 x H2 hv g R _ hy
    obtain ⟨e, hy⟩ := hy
    subst e
    have hi : i < l.length := by
      have := (List.getElem?_eq_some_iff.mp hv).1
      rwa [List.length_reverse] at this
    rw [List.getElem?_reverse hi] at hv
    obtain ⟨x', e1, e2⟩ := r.get hv
    rw [hx, hy] at e1
    cases e1
    exact ⟨Grow.refl, R, RV.grow R0 g _ _ e2⟩
end
/-! ### the readings -/
def tIt (Z : Zt) (W : WX) (t : Mp.Env → Sto → QI → QX → Prop) : TI := fun σ H R => ∃ m S r P PX, Bs Z W PX r σ m S H ∧ t r S P PX ∧ ∀ l g S' m' H' J, P l g S' → Grow m H m' H' → Rep Z m' S' H' → Wk Z l g m' H' J → R J H'
theorem PIi {X : Cx} {tg e : Expr} {t t' : TI} (h : PI X tg e t) (k : ∀ σ H Q, t' σ H Q → t σ H Q) : PI X tg e t' := ⟨fun pins s σ H Q I q => h.run pins s σ H Q I (k σ H Q q)⟩
theorem rgN_le {i j c : Int} (hi : rgOk i) (hj : rgOk j) (hc : c ≠ 0) : Builtin.Range.rangeSize i j c = (rgN i j c : Nat) ∧ rgN i j c ≤ 2000000 := by
  unfold rgOk at hi hj
  unfold rgN Builtin.Range.rangeSize
  by_cases h : c > 0
  · simp only [h, if_true]
    split
    · have h1 : 0 ≤ (j - i - 1) / c := Int.ediv_nonneg (by omega) (by omega)
      have h2 : (j - i - 1) / c ≤ j - i - 1 := Int.ediv_le_self _ (by omega)
      omega
    · exact ⟨rfl, by decide⟩
  · simp only [h, if_false]
    split
    · have h1 : 0 ≤ (i - j - 1) / (-c) := Int.ediv_nonneg (by omega) (by omega)
      have h2 : (i - j - 1) / (-c) ≤ i - j - 1 := Int.ediv_le_self _ (by omega)
      omega
    · exact ⟨rfl, by decide⟩
theorem rgC_of {i j c : Int} (hi : rgOk i) (hj : rgOk j) (hk : rgOk c) (hc : c ≠ 0) : RgC i j c (rgN i j c) := by
  obtain ⟨h1, h2⟩ := rgN_le hi hj hc
  unfold rgOk at hi hj hk
  refine ⟨hc, by omega, ?_, h1⟩
  unfold Builtin.Range.small
  rw [h1]
  have h3 : ((rgN i j c : Nat) : Int) ≤ 2000000 := by omega
  simp only [Builtin.Range.rangeFitsLong, Bool.and_eq_true, Bool.or_eq_true, decide_eq_true_eq, beq_iff_eq]
  refine ⟨⟨⟨⟨by omega, by omega⟩, by omega⟩, by omega⟩, .inr ?_⟩
  split
  · simp only [decide_eq_true_eq, Bool.and_eq_true]; omega
  · simp only [decide_eq_true_eq, Bool.and_eq_true]; omega
end Mp

set_option Elab.async false
set_option linter.all false
set_option maxRecDepth 100000
set_option autoImplicit false
set_option maxHeartbeats 2000000
/-! Mini9: a checked term tells what its text does: expressions. -/
namespace Mp
open PySem PySem.Spec PyProof.Rows L2

/-- a def's promise by our call -/
def spI (Z : Zt) (C : Call) (f : String) : Sp := fun vs H Q E => ∃ m S args P PX, Rep Z m S H ∧ RVs Z.K H m args vs ∧ C f args S P PX ∧ KV Z m H P Q ∧
  ∀ e S' m' H' cls d, PX e S' → Grow m H m' H' → Rep Z m' S' H' → RX Z H' m' e cls d → E cls d H'
/-- the last parameters may be left out: they are ds -/
def DflR (K : PySem.W.Frag) (fd : FuncData) (ps : List Str) (ds : List Val) : Prop := ∃ (dv : List V) (du : List Value), Vals dv du ∧ Binds K fd ps du ∧ ∀ m H, RVs K H m ds dv
/-- what our rule of _law_said(lambda: body) reads: what the lambda tells (tl), the words that are told -/
def TTs (Z : Zt) (tl : XK → Hp → VK → Prop) (H : Hp) (Q : VK) : Prop :=
  tl (fun cls d H' => ∃ m S e w, Rep Z m S H' ∧ RX Z H' m e cls d ∧ saidV e = some w ∧ ∀ T m' H'' x, Grow m H' m' H'' → Rep Z m' (S ++ T) H'' → RV Z.K H'' m' w x → Q x H'') H
    (fun v H' => ∀ p, H' p = none → Q (.ref p) (upd H' p (.tup [.str (Str.ofString "told"), v])))
/-- the rule of _law_said(lambda: body), at a context X -/
def SaidF (Z : Zt) (X : Cx) (k : Nat) : Prop := ∀ (t : XK → TE) (body : Expr) (scope : Scope) (p lpos pos : Pos), LamX.LamS X.env.scope scope → Gl X (Str.ofString "_law_said") →
  (∀ (A : Around) (outer : List PySem.Env) (s : Shared) (H : Hp) (E : XK) (f c' : Addr), Room k (A.deeper (LamX.lamEnv X scope s.heap.objs.size f c')) → PE (LamX.lamCx X A outer s H E scope f c') body (t E)) →
  PE X (.Call (.Name (Str.ofString "_law_said") p) [.Lambda ⟨[], [], none, [], [], none, []⟩ body scope lpos] [] pos) (LamX.tLam Z.T (TTs Z) t)
/-- the same of _law_word: the first of the words -/
def TTw (Z : Zt) (tl : XK → Hp → VK → Prop) (H : Hp) (Q : VK) : Prop := TTs Z tl H (fun v H' => ∃ p x xs, v = .ref p ∧ SqT Z.K H' p (x :: xs) ∧ Q x H')
def WordF (Z : Zt) (X : Cx) (k : Nat) : Prop := ∀ (t : XK → TE) (body : Expr) (scope : Scope) (p lpos pos : Pos), LamX.LamS X.env.scope scope → Gl X (Str.ofString "_law_word") →
  (∀ (A : Around) (outer : List PySem.Env) (s : Shared) (H : Hp) (E : XK) (f c' : Addr), Room k (A.deeper (LamX.lamEnv X scope s.heap.objs.size f c')) → PE (LamX.lamCx X A outer s H E scope f c') body (t E)) →
  PE X (.Call (.Name (Str.ofString "_law_word") p) [.Lambda ⟨[], [], none, [], [], none, []⟩ body scope lpos] [] pos) (LamX.tLam Z.T (TTw Z) t)
/-- both rules, at each context of the same def -/
def SaidB (Z : Zt) (X : Cx) (k : Nat) (wrd : Bool) : Prop := ∀ Y : Cx, Y.prog = X.prog → Y.w = X.w → Y.K = X.K → Y.mg = X.mg → Y.base = X.base → Y.env.code = X.env.code → Y.env.qual = X.env.qual → Y.A = X.A → SaidF Z Y k ∧ (wrd = true → WordF Z Y k)
/-- an own class of errors -/
structure XnF (X : Cx) (c : String) (Cc : Addr) : Prop where
  mg : X.mg (Str.ofString c) = some (.ref Cc)
  ex : PySem.W.excIn X.K Cc [.type "ValueError", .type "Exception", .type "BaseException", .type "object"] "ValueError.__new__" = true
  kp : PySem.W.keepIn X.K (.ref Cc) = true
  rs : Raises X (.ref Cc)
/-- the handled exception a, of the class c -/
def ExF (Z : Zt) (X : Cx) (F : Facts) (a : Addr) (c : String) : Prop := ∃ (oe : PySem.Obj) (Cc : Addr) (d : Option Addr), (a, oe) ∈ X.pn ∧ Zc (.ref Cc) d oe ∧ (∀ dd, d = some dd → ∃ fs, (dd, fs) ∈ Z.xd) ∧ (∃ vs, oe.data = .fields vs) ∧ ExcC X.K Cc ∧
  PySem.W.kitOne X.K (.ref Cc) (.type "ValueError") = some true ∧ ∀ T ∈ F.cls, ∃ D, X.mg (Str.ofString T) = some (.ref D) ∧ PySem.W.keepIn X.K (.ref D) = true ∧ PySem.W.kitOne X.K (.ref Cc) (.ref D) = some (isxB c T)
/-- the field x of the handled exception a stands in its dict dd -/
def FldF (Z : Zt) (X : Cx) (a : Addr) (x : String) (i : Int) : Prop := ∃ (oe : PySem.Obj) (Cc dd : Addr) (fs : List (Str × V)), (a, oe) ∈ X.pn ∧ Zc (.ref Cc) (some dd) oe ∧ (∃ vs, oe.data = .fields vs) ∧ XfC X.K Cc ∧ PySem.W.findIn X.K (.ref Cc) (Str.ofString x) = some none ∧
  (dd, fs) ∈ Z.xd ∧ fs.lookup (Str.ofString x) = some (.int i)
/-- a def's promise under the handled exception p -/
structure FnX (P : Program) (w : World) (K : PySem.W.Frag) (mg : Str → Option Value) (base : Heap) (p : Addr × PySem.Obj) (k : Nat) (f : Addr) (fd : FuncData) (ps : List Str) (sp : Sp) : Prop where
  len : ∀ vs H Q E, sp vs H Q E → vs.length = ps.length
  run : ∀ (A : Around) (outer : List PySem.Env) (s : Shared) (H : Hp) (args : Args) (us : List Value) (vs : List V) (Q : VK) (E : XK), L2H.RoomH k A → L2H.PinOk outer H s p → Env0 P w K mg base A outer s H → BindsTo s fd args (ps.zip us) → Vals vs us → sp vs H Q E →
    codeAny (model P w) A (.call (.ref f) args) (CR (L2.CX P w) outer P w H s Q E) s
/-- values as a dict's entries hold them -/
def EnV : List (Str × Val) → List DictEntry → Prop
  | [], es => es = []
  | p :: l, es => ∃ e r x, es = e :: r ∧ He.keyOf e = some (p.1, e.hash) ∧ (∀ K H m, RV K H m p.2 x) ∧ RelV x e.val ∧ EnV l r
/-- a dict of the module with texts as keys -/
def DcF (K : PySem.W.Frag) (mg : Str → Option Value) (w : World) (p : String × List (Str × Val)) : Prop := ∃ a es n, mg (Str.ofString p.1) = some (.ref a) ∧ K.lookup a = some ⟨.type "dict", none, .dict es n, #[]⟩ ∧ (a == sysModules) = false ∧
  es.toList.map He.keyOf = He.keysIn w.params (p.2.map (·.1)) ∧ (p.2.map (·.1)).Nodup ∧ p.2.length ≤ 1000 ∧ EnV p.2 es.toList
/-- the table of modules is no list -/
def SmF (K : PySem.W.Frag) : Prop := ∃ o, K.lookup sysModules = some o ∧ o.cls = .type "dict"
/-- the context of a text -/
structure Good (Z : Zt) (C : Call) (W : WX) (F : Facts) (N : List Str) (sc : Scope) (X : Cx) : Prop where
  hK : X.K = Z.K
  hmg : X.mg = Z.mg
  hN : X.N = N
  hsc : X.env.scope = sc
  nd : N.Nodup
  calm : F.kind ≠ 2 → X.calm = true
  gd : F.kind = 0 → X.A.guards = some []
  hu : X.A.units + 64 < cLine
  tk : Takes X W
  fn : F.kind ≠ 2 → ∀ f ∈ F.fns, ∃ k a fd ps, FnG X.prog X.w X.K X.mg X.base (decide (F.kind = 0)) k a fd ps (spI Z C f) ∧ Room k X.A ∧ X.mg (Str.ofString f) = some (.ref a) ∧ PySem.W.keepIn X.K (.ref a) = true ∧ Binds X.K fd ps [] ∧ ∀ ds, (f, ds) ∈ F.dfs → DflR X.K fd ps ds
  cn : ∀ p ∈ F.cns, ∃ u x, X.mg (Str.ofString p.1) = some u ∧ RelV x u ∧ ∀ m H, RV Z.K H m p.2 x
  fr : ∀ x ∈ F.frs, X.mg (Str.ofString x) = none
  xn : ∀ c ∈ F.xns, c ∈ Z.xs ∧ ∃ Cc, XnF X c Cc
  cl : ∀ c ∈ F.cls, ∃ Cc, X.mg (Str.ofString c) = some (.ref Cc)
  said : F.kind = 0 → F.lam = true → ∃ k, SaidB Z X k F.wrd ∧ ∀ f ∈ F.lows, ∃ a fd ps, FnG X.prog X.w X.K X.mg X.base false k a fd ps (spI Z C f) ∧ X.mg (Str.ofString f) = some (.ref a) ∧ PySem.W.keepIn X.K (.ref a) = true ∧ Binds X.K fd ps [] ∧ ∀ ds, (f, ds) ∈ F.dfs → DflR X.K fd ps ds
  fnx : F.kind = 2 → ∀ f ∈ F.fns, ∃ p k a fd ps, p ∈ X.pn ∧ FnX X.prog X.w X.K X.mg X.base p k a fd ps (spI Z C f) ∧ L2H.RoomH k X.A ∧ X.mg (Str.ofString f) = some (.ref a) ∧ PySem.W.keepIn X.K (.ref a) = true ∧ Binds X.K fd ps []
  exn : F.kind = 2 → ∀ a c S Q QX, C "exn" [.exn a c] S Q QX → ExF Z X F a c
  fld : F.kind = 2 → F.fld = true → ∀ x, (x = "many" ∨ x = "most") → ∀ v S Q QX, C ("." ++ x) [v] S Q QX → ∃ a c i, v = .exn a c ∧ Q (.int i) S ∧ FldF Z X a x i
  sm : F.kind ≠ 2 → SmF X.K
  dc : F.kind ≠ 2 → ∀ p ∈ F.dcs, DcF X.K X.mg X.w p
  fv : F.kind ≠ 2 → ∀ f S Q QX, C ("&" ++ f) [] S Q QX → f ∈ F.fvs ∧ ∃ a, X.mg (Str.ofString f) = some (.ref a) ∧ Q (.exn a f) S
abbrev W0 : WX := fun _ _ _ _ => False
theorem Good.blk {Z : Zt} {C : Call} {W : WX} {F : Facts} {N : List Str} {sc : Scope} {X : Cx} (g : Good Z C W F N sc X) (hk : F.kind ≠ 2) (s : Shared) (H : Hp) (scope : Scope) (A : Addr) (cl : List (Str × Addr)) (fp : List Addr) :
    Good Z C W0 F N (relS scope sc) (X.blk s H scope (compEnvC scope cl A X.env) fp) where
  hK := g.hK
  hmg := g.hmg
  hN := g.hN
  hsc := by rw [← g.hsc]; rfl
  nd := g.nd
  calm := g.calm
  gd := g.gd
  hu := g.hu
  tk := L2.takes0
  fn := g.fn
  cn := g.cn
  fr := g.fr
  xn := fun c hc => let ⟨hz, Cc, h⟩ := g.xn c hc; ⟨hz, Cc, h.mg, h.ex, h.kp, h.rs⟩
  cl := g.cl
  said := fun h0 hl => let ⟨k, hS, hlow⟩ := g.said h0 hl; ⟨k, fun Y e1 e2 e3 e4 e5 e6 e7 e8 => hS Y e1 e2 e3 e4 e5 e6 e7 e8, hlow⟩
  fnx := fun h => absurd h hk
  exn := fun h => absurd h hk
  fld := fun h => absurd h hk
  fv := g.fv
  sm := g.sm
  dc := g.dc
/-! ### small facts -/
theorem and2 {a b : Bool} (h : (a && b) = true) : a = true ∧ b = true := Bool.and_eq_true_iff.mp h
theorem okB_d {x : Str} (h : okB x = true) : (x == ("__debug__" : Str)) = false ∧ (x == ("__classdict__" : Str)) = false ∧ x ≠ "__name__" := by
  unfold okB at h
  obtain ⟨h, h3⟩ := and2 h
  obtain ⟨h1, h2⟩ := and2 h
  refine ⟨by simpa using h1, by simpa using h2, fun e => ?_⟩
  subst e
  simp at h3
theorem visB_v {sc : Scope} {x : Str} (h : visB sc x = true) : Vis sc x := by
  unfold visB at h
  unfold Vis
  split at h
  · exact .inl (by assumption)
  · exact .inr (.inl (by assumption))
  · exact .inr (.inr (by assumption))
  · cases h
theorem glB_g {X : Cx} {x : Str} (h : glB X.env.scope x = true) : Gl X x := by
  unfold glB at h
  split at h
  · assumption
  · cases h
theorem locB_l {sc : Scope} {x : Str} (h : locB sc x = true) : sc.names.lookup x = some .local ∨ sc.names.lookup x = some .cell := by
  unfold locB at h
  split at h
  · exact .inl (by assumption)
  · exact .inr (by assumption)
  · cases h
theorem chk_ok {F : Facts} {N : List Str} {sc : Scope} {e : E} {x : Expr} (h : chk F N sc e x = true) : okX x = true := by
  cases e <;> cases x <;> first | rfl | exact absurd h Bool.false_ne_true
theorem star_ok {x : Expr} (h : okX x = true) (r : List Expr) (env : PySem.Env) : starEach (x :: r) env = (false, eval x env) :: starEach r env := by
  cases x <;> first | rfl | exact absurd h Bool.false_ne_true
theorem chks_ok {F : Facts} {N : List Str} {sc : Scope} : ∀ {l : Es} {xs : List Expr}, chks F N sc l xs = true → ∀ x ∈ xs, okX x = true
  | .nil, [], _ => by simp
  | .nil, x :: xs, h => absurd h (by simp [chks])
  | .cons e l, [], h => absurd h (by simp [chks])
  | .cons e l, x :: xs, h => by
    simp only [chks] at h
    obtain ⟨h1, h2⟩ := and2 h
    intro y hy
    rcases List.mem_cons.mp hy with rfl | hy
    · exact chk_ok h1
    · exact chks_ok h2 y hy
theorem stars_map : ∀ {xs : List Expr} (env : PySem.Env), (∀ x ∈ xs, okX x = true) → starEach xs env = xs.map fun x => (false, eval x env)
  | [], _, _ => rfl
  | x :: xs, env, h => by
    rw [star_ok (h x List.mem_cons_self), stars_map env fun y hy => h y (List.mem_cons_of_mem _ hy)]
    rfl
theorem stars_no {xs : List Expr} (env : PySem.Env) (pos : Pos) (h : ∀ x ∈ xs, okX x = true) : (backTo pos (starEach xs env)).any (·.1) = false := by
  rw [stars_map env h]
  unfold backTo
  rw [List.map_map, List.any_map]
  rw [List.any_eq_false]
  intro x _
  simp
theorem stars_few {xs : List Expr} (env : PySem.Env) (pos : Pos) (h : ∀ x ∈ xs, okX x = true) (hl : xs.length < 30) : ((backTo pos (starEach xs env)).all (fun x => !x.1) && (backToKw pos (keywordEach [] env)).all (fun x => x.1.isSome)
      && decide (xs.length + ([] : List Keyword).length + (if ([] : List Keyword).isEmpty then 0 else 1) < 30)) = true := by
  rw [stars_map env h]
  unfold backTo
  rw [List.map_map]
  have h1 : (List.map ((fun x : Bool × Sem Value => (x.1, if x.1 = true then do let v ← x.2; standAt pos; pure v else x.2)) ∘ fun x => (false, eval x env)) xs).all (fun x => !x.1) = true := by
    rw [List.all_map, List.all_eq_true]
    intro x _
    simp
  rw [Bool.and_eq_true, Bool.and_eq_true]
  exact ⟨⟨h1, rfl⟩, by simpa using hl⟩
theorem attr_ok {o : Expr} {n : Str} {env : PySem.Env} (h : okX o = true) (h0 : isCall0 o = false) : attributeBase o n env (eval o env) = eval o env := by
  cases o <;> first | rfl | exact absurd h Bool.false_ne_true | skip
  rename_i f as ks p
  cases f <;> first | rfl | skip
  rename_i x q
  cases as with
  | cons a r => rfl
  | nil =>
    cases ks with
    | cons a r => rfl
    | nil => exact absurd h0 (by simp [isCall0, vCall])
theorem plain_ok {y : Expr} (h : okX y = true) : PlainIx y := by
  intro o i
  cases y <;> first | rfl | exact absurd h Bool.false_ne_true
theorem mark_ok {y : Expr} (h : okX y = true) (op : CmpOp) : behindInMarks op y = false := by
  cases y <;> first | rfl | exact absurd h Bool.false_ne_true
theorem fold_ok {y : Expr} (h : okX y = true) (env : PySem.Env) (v : Value) : foldedSetIterable y env v = pure v := by
  cases y <;> first | rfl | exact absurd h Bool.false_ne_true
/-- a test that is asked as a value -/
def plainT : Expr → Bool
  | .UnaryOp .Not _ _ => false | .BoolOp _ _ _ => false | .IfExp _ _ _ _ => false | .Compare _ _ _ _ => false
  | _ => true
theorem plainT_eq {x : Expr} (h : plainT x = true) (env : PySem.Env) (whole : Sem Value) : isTrue x env whole = (do let v ← whole; standAt x.pos; holding [v] (truthy v)) := by
  cases x <;> first | rfl | exact absurd h Bool.false_ne_true | skip
  rename_i o a p
  cases o <;> first | rfl | exact absurd h Bool.false_ne_true
theorem ptI {Z : Zt} {W : WX} {X : Cx} {x : Expr} {t : Mp.Env → Sto → QV → QX → Prop} (hK : X.K = Z.K) (h : PE X x (tI Z W t)) (hp : plainT x = true) : PT X x (tT Z W t) := by
  refine PTi (pt_truth h (plainT_eq hp X.env)) fun σ H Q ⟨m, S, r, P, PX, b, h, k⟩ => ?_
  exact mkI b h fun v S' m' H' y hp g b' rv => let ⟨k0, ht, hq⟩ := k v S' m' H' hp g b'.rep; ⟨k0, by rw [hK]; exact truV_V b'.rep rv ht, hq⟩
theorem truV_bl {S : Sto} {b k : Bool} (h : truV S (.bl b) = some k) : k = b := (Option.some.inj h).symm
theorem cmpS_bl {o : Cop} {a b : Val} {S : Sto} {P : QV} (h : cmpS o a b S P) : cmpS o a b S (fun v S1 => (∃ k, v = .bl k) ∧ P v S1) := by
  have eq' : ∀ {F G : Bool → Prop}, (∀ k, F k → G k) → eqS a b S F → eqS a b S G := by
    intro F G hFG h
    unfold eqS at h ⊢
    split at h
    · exact hFG _ h
    · exact hFG _ h
    · exact hFG _ h
    · obtain ⟨d, e, h1, h2, h3⟩ := h
      exact ⟨d, e, h1, h2, hFG _ h3⟩
  have in' : ∀ {F G : Bool → Prop}, (∀ k, F k → G k) → inS a b S F → inS a b S G := by
    intro F G hFG h
    unfold inS at h ⊢
    split at h
    · exact ⟨h.1, h.2.1, hFG _ h.2.2⟩
    · split at h
      · rename_i hf
        rw [if_pos hf]
        obtain ⟨l, h1, h2, h3, h4⟩ := h
        exact ⟨l, h1, h2, h3, hFG _ h4⟩
      · rename_i hf
        rw [if_neg hf]
        obtain ⟨d, ds, h1, h2, h3⟩ := h
        exact ⟨d, ds, h1, h2, hFG _ h3⟩
    · obtain ⟨c, e, h3⟩ := h
      exact ⟨c, e, hFG _ h3⟩
    · exact h
  have cm : ∀ f : Int → Int → Bool, cmpI f a b S P → cmpI f a b S (fun v S1 => (∃ k, v = .bl k) ∧ P v S1) := by
    intro f h
    unfold cmpI at h ⊢
    split at h
    · exact ⟨⟨_, rfl⟩, h⟩
    · exact h
  have is' : ∀ {F G : Bool → Prop}, (∀ k, F k → G k) → isS a b F → isS a b G := by
    intro F G hFG h
    cases b with
    | non => exact hFG _ h
    | bl c =>
      cases a with
      | bl d => exact hFG _ h
      | _ => exact h
    | _ => exact h
  cases o with
  | eq => exact eq' (G := fun k => (∃ k', Val.bl k = .bl k') ∧ P (.bl k) S) (fun k h => ⟨⟨k, rfl⟩, h⟩) h
  | ne => exact eq' (G := fun k => (∃ k', Val.bl (!k) = .bl k') ∧ P (.bl (!k)) S) (fun k h => ⟨⟨_, rfl⟩, h⟩) h
  | lt => exact cm _ h
  | le => exact cm _ h
  | gt => exact cm _ h
  | ge => exact cm _ h
  | is => exact is' (G := fun k => (∃ k', Val.bl k = .bl k') ∧ P (.bl k) S) (fun k h => ⟨⟨k, rfl⟩, h⟩) h
  | isnot => exact is' (G := fun k => (∃ k', Val.bl (!k) = .bl k') ∧ P (.bl (!k)) S) (fun k h => ⟨⟨_, rfl⟩, h⟩) h
  | isin => exact in' (G := fun k => (∃ k', Val.bl k = .bl k') ∧ P (.bl k) S) (fun k h => ⟨⟨k, rfl⟩, h⟩) h
  | notin => exact in' (G := fun k => (∃ k', Val.bl (!k) = .bl k') ∧ P (.bl (!k)) S) (fun k h => ⟨⟨_, rfl⟩, h⟩) h
theorem conB_r {X : Cx} {Z : Zt} {W : WX} {C : Call} {v : Val} {c : Const} {k : Nat} {p : Pos} (h : conB v c = true) : PE X (.Constant c k p) (tI Z W (ev C (.con v))) := by
  unfold conB at h
  cases v <;> cases c <;> first | exact absurd h Bool.false_ne_true | skip
  · exact PEi pe_non fun σ H Q ⟨m, S, r, P, PX, b, h, k⟩ => k.non b.rep (by simpa only [ev] using h)
  · rename_i a d
    have e : a = d := by simpa using h
    subst e
    exact PEi pe_bl fun σ H Q ⟨m, S, r, P, PX, b, h, k⟩ => k.bl b.rep (by simpa only [ev] using h)
  · rename_i a d
    have e : a = d := by simpa using h
    subst e
    exact PEi pe_int fun σ H Q ⟨m, S, r, P, PX, b, h, k⟩ => k.int b.rep (by simpa only [ev] using h)
  · rename_i a d
    have e : a = d := by simpa using h
    subst e
    exact PEi pe_str fun σ H Q ⟨m, S, r, P, PX, b, h, k⟩ => k.str b.rep (by simpa only [ev] using h)
/-- isinstance -/
theorem kit_tab : ∀ t ∈ ["NoneType", "bool", "int", "str", "tuple", "list", "dict"], ∀ T ∈ ["int", "bool", "tuple", "str", "list", "dict"], L2.kitB t T = some ((t == T) || (t == "bool" && T == "int")) := by decide +kernel
theorem tyOk_mem {T : String} (h : tyOk T = true) : T ∈ ["int", "bool", "tuple", "str", "list", "dict"] := by
  unfold tyOk at h
  simp only [Bool.or_eq_true, beq_iff_eq] at h
  rcases h with ((((rfl | rfl) | rfl) | rfl) | rfl) | rfl <;> simp
/-- a value's type; a pinned dict is a dict -/
def TyP (K : PySem.W.Frag) (H : Hp) (x : V) (t : Value) : Prop := TyX K H x t ∨ (t = .type "dict" ∧ ∃ a ob, x = .ref a ∧ H a = some (TD.pin a ob) ∧ ob.ExactDict)
theorem kit_ofP {X : Cx} {pins : List (Addr × PySem.Obj)} {σ : L2.St} {H : Hp} {s : Shared} {x : V} {u t : Value} (I : Inv X pins σ H s) (rx : RelV x u) (ty : TyP X.K H x t) : ∃ P : Heap → Prop, PySem.W.KitX X.K u t P ∧ P s.heap ∧ u ≠ .builtin "__main__.__loader__#opaque" := by
  rcases ty with ty | ⟨rfl, a, ob, rfl, e, ex⟩
  · exact kit_of I rx ty
  · cases (show u = Value.ref a from rx)
    exact ⟨_, PySem.W.kitx_dict, ⟨ob, TD.at_pin I e, ex.1⟩, fun z => nomatch z⟩
def rIsiP (K : PySem.W.Frag) : List V → Hp → VK → Prop := fun xs H Q => ∃ (x c : V) (t u : Value) (b : Bool), xs = [x, c] ∧ ClsV c u ∧ TyP K H x t ∧ PySem.W.kitOne K t u = some b ∧ Q (.bl b) H
theorem call_isiP {X : Cx} : CallR X (.builtin "isinstance") (rIsiP X.K) := by
  intro pins s σ H xs us Q I r h
  obtain ⟨x, c, t, u, b, rfl, k, ty, e, q⟩ := h
  obtain ⟨u1, u2, rfl, r1, r2⟩ := vals2 r
  have e2 := k.eq r2
  subst e2
  obtain ⟨P, Z, p, hx⟩ := kit_ofP I r1 ty
  exact PySem.W.kia_one Z I.kIn p e hx fun tk => ⟨.bl b, H, I.tok tk, rfl, q⟩
theorem tyX_of {Z : Zt} {m : List Addr} {S : Sto} {H : Hp} (R : Rep Z m S H) {v : Val} {x : V} (r : RV Z.K H m v x) {T : String} {b : Bool} (h : isiS T S v = some b) : ∃ t : String, TyP Z.K H x (.type t) ∧ PySem.W.kitOne Z.K (.type t) (.type T) = some b := by
  unfold isiS at h
  by_cases hT : tyOk T = true
  · rw [if_pos hT] at h
    have hm := tyOk_mem hT
    have kt : ∀ t : String, tyN S v = some t → t ∈ ["NoneType", "bool", "int", "str", "tuple", "list", "dict"] → PySem.W.kitOne Z.K (.type t) (.type T) = some b := by
      intro t ht htm
      rw [ht] at h
      have e := kit_tab t htm T hm
      have e2 : ((t == T) || (t == "bool" && T == "int")) = b := Option.some.inj h
      rw [e2] at e
      exact kit_ty e
    cases v with
    | exn _ _ =>
      have h : none = some b := h
      cases h
    | non =>
      simp only [RV] at r; subst r
      exact ⟨"NoneType", .inl (.base .non), kt _ rfl (by simp)⟩
    | bl c =>
      simp only [RV] at r; subst r
      exact ⟨"bool", .inl (.base (.bl c)), kt _ rfl (by simp)⟩
    | int c =>
      simp only [RV] at r; subst r
      exact ⟨"int", .inl (.base (.int c)), kt _ rfl (by simp)⟩
    | str c =>
      simp only [RV] at r; subst r
      exact ⟨"str", .inl (.base (.str c)), kt _ rfl (by simp)⟩
    | tup l =>
      simp only [RV] at r
      obtain ⟨a, xs, rfl, hs, _⟩ := r
      have ty : TyX Z.K H (.ref a) (.type "tuple") := by
        rcases hs with (h | ⟨o, h⟩) | ⟨o, its, n, h, hc, _⟩
        · exact .base (.tup h)
        · exact .fTuple h
        · exact .kTuple h hc
      exact ⟨"tuple", .inl ty, kt _ rfl (by simp)⟩
    | obj n =>
      simp only [RV] at r
      obtain ⟨a, ha, rfl⟩ := r
      have hn : n < S.length := by rw [← R.len]; exact (List.getElem?_eq_some_iff.mp ha).1
      have q := R.ob n S[n] a (List.getElem?_eq_getElem hn) ha
      have kn : ∀ o, S[n] = o → S[n]? = some o := fun o e => by rw [List.getElem?_eq_getElem hn, e]
      cases ho : S[n] with
      | lst l =>
        rw [ho] at q
        obtain ⟨xs, e, _⟩ := q
        exact ⟨"list", .inl (.base (.lst e)), kt _ (by simp only [tyN, kn _ ho]) (by simp)⟩
      | frz l =>
        rw [ho] at q
        obtain ⟨o, xs, e, _⟩ := q
        exact ⟨"list", .inl (.base (.frz e)), kt _ (by simp only [tyN, kn _ ho]) (by simp)⟩
      | dtu l ob =>
        rw [ho] at q
        obtain ⟨xs, e, T, _⟩ := q
        exact ⟨"dict", .inr ⟨rfl, a, ob, rfl, e, T.ex⟩, kt _ (by simp only [tyN, kn _ ho]) (by simp)⟩
      | dki l ob =>
        rw [ho] at q
        obtain ⟨xs, e, T, _⟩ := q
        exact ⟨"dict", .inr ⟨rfl, a, ob, rfl, e, T.ex⟩, kt _ (by simp only [tyN, kn _ ho]) (by simp)⟩
      | dic l =>
        rw [ho] at q
        obtain ⟨ks, e, _⟩ := q
        exact ⟨"dict", .inl (.base (.dK e)), kt _ (by simp only [tyN, kn _ ho]) (by simp)⟩
      | ins c l => rw [ho] at q; exact q.elim
  · rw [if_neg hT] at h
    cases h
end Mp

set_option Elab.async false
set_option linter.all false
set_option maxRecDepth 100000
set_option autoImplicit false
set_option maxHeartbeats 2000000
/-! Mini10: each construct of an expression. -/
namespace Mp
open PySem PySem.Spec PyProof.Rows L2
/-! ### targets -/
def NmOk (X : Cx) (i : Nat) (e : Expr) : Prop := ∃ x p, e = .Name x p ∧ X.N[i]? = some x ∧ Loc X.env.scope x ∧ (X.fn x = true ∨ X.env.scope.names.lookup x = some .local)
/-- only these were written -/
def Same (own : List Nat) (σ σ' : L2.St) : Prop := σ'.length = σ.length ∧ ∀ i, i ∉ own → σ'[i]? = σ[i]?
def gT (Z : Zt) (tg : Tg) : TG := fun v σ H Q => ∃ m S r u, ∃ K : Mp.Env → Prop, Rep Z m S H ∧ RE Z H m r σ ∧ RV Z.K H m u v ∧ asgT tg u r K ∧ ∀ r' σ', K r' → RE Z H m r' σ' → (∀ own, ownIn own tg = true → Same own σ σ') → Q σ' H
def gNs : List Nat → TGs
  | [] => gNil
  | i :: is => gCons (gName i) (gNs is)
theorem gNs_ok {Z : Zt} {m : List Addr} {H : Hp} {Q : L2.St → Hp → Prop} : ∀ (is : List Nat) (vs : List Val) (xs : List V) (r : Mp.Env) (σ : L2.St), is.length = vs.length → RVs Z.K H m vs xs → RE Z H m r σ →
    (∀ σ', RE Z H m ((is.zip vs).foldl (fun r p => r.set p.1 (some p.2)) r) σ' → (∀ own, (∀ i ∈ is, i ∈ own) → Same own σ σ') → Q σ' H) → gNs is xs σ H Q
  | [], [], xs, r, σ, _, h, e, k => by
    simp only [RVs] at h
    exact ⟨h, k σ e fun _ _ => ⟨rfl, fun _ _ => rfl⟩⟩
  | [], _ :: _, _, _, _, hl, _, _, _ => by simp at hl
  | _ :: _, [], _, _, _, hl, _, _, _ => by simp at hl
  | i :: is, v :: vs, xs, r, σ, hl, h, e, k => by
    simp only [RVs] at h
    obtain ⟨x, r', rfl, h1, h2⟩ := h
    exact ⟨x, r', rfl, gNs_ok is vs r' (r.set i (some v)) (σ.set i (some x)) (by simpa using hl) h2 (e.set h1 i) fun σ' e' hs => k σ' e' fun own ho => by
      obtain ⟨a, b⟩ := hs own fun i hi => ho i (List.mem_cons_of_mem _ hi)
      refine ⟨by rw [a, List.length_set], fun j hj => ?_⟩
      rw [b j hj, List.getElem?_set_ne]
      intro q
      exact hj (q ▸ ho i List.mem_cons_self)⟩
theorem sdGs {X : Cx} {N : List Str} {sc : Scope} (nd : X.N.Nodup) (ok : ∀ i e, tgN N sc i e = true → NmOk X i e) : ∀ (is : List Nat) (es : List Expr), tgsN N sc is es = true →
    PGs X es (gNs is) ∧ (assignEach es X.env).length = is.length ∧ (assignEach es X.env).findIdx? (·.1) = none
  | [], [], _ => ⟨pgs_nil, rfl, rfl⟩
  | [], _ :: _, h => absurd h (by simp [tgsN])
  | _ :: _, [], h => absurd h (by simp [tgsN])
  | i :: is, e :: es, h => by
    simp only [tgsN] at h
    obtain ⟨h1, h2⟩ := and2 h
    obtain ⟨x, p, rfl, a, b, c⟩ := ok i e h1
    obtain ⟨g1, g2, g3⟩ := sdGs nd ok is es h2
    refine ⟨pgs_cons (pg_name nd a b c) g1, ?_, ?_⟩
    · show (assignEach es X.env).length + 1 = is.length + 1
      rw [g2]
    · show List.findIdx? (·.1) ((false, assign (.Name x p) X.env) :: assignEach es X.env) = none
      rw [List.findIdx?_cons]
      simp [g3]
theorem sdT {Z : Zt} {X : Cx} {N : List Str} {sc : Scope} {tg : Tg} {e : Expr} (hK : X.K = Z.K) (hc : (∀ i, tg ≠ .nm i) → X.calm = true) (nd : X.N.Nodup) (ok : ∀ i e, tgN N sc i e = true → NmOk X i e) (h : chkT N sc tg e = true) : PG X e (gT Z tg) := by
  cases tg with
  | nm i =>
    obtain ⟨x, p, rfl, a, b, c⟩ := ok i e h
    refine ⟨fun pins s σ H v u Q I r hw => (pg_name (i := i) nd a b c).run pins s σ H v u Q I r ?_⟩
    obtain ⟨m, S, r', w, K, R, re, rv, ha, k⟩ := hw
    exact k _ _ ha (re.set rv i) fun own ho => ⟨List.length_set, fun j hj => by
      rw [List.getElem?_set_ne]
      intro q
      exact hj (q ▸ List.contains_iff_mem.mp ho)⟩
  | tup is =>
    unfold chkT at h
    obtain ⟨es, h1, h2⟩ := Option.any_eq_true_iff_get _ _ |>.mp h |> fun ⟨a, b⟩ => (⟨_, (Option.some_get a).symm, b⟩ : ∃ es, vTup e = some es ∧ tgsN N sc is es = true)
    obtain ⟨k, p, rfl⟩ := vTup_eq h1
    obtain ⟨g1, g2, g3⟩ := sdGs nd ok is es h2
    refine ⟨fun pins s σ H v u Q I r hw => (pg_tup (n := is.length) (hc (by intro i z; cases z)) g1 g2 g3).run pins s σ H v u Q I r ?_⟩
    obtain ⟨m, S, r', w, K, R, re, rv, ha, k⟩ := hw
    cases w with
    | tup vs =>
      obtain ⟨hl, ha⟩ := ha
      simp only [RV] at rv
      obtain ⟨a, xs, rfl, hs, rv⟩ := rv
      exact ⟨a, xs, rfl, by rw [hK]; exact hs, by rw [← rv.len, hl], gNs_ok is vs xs r' σ hl rv re fun σ' re' hs => k _ _ ha re' fun own ho => hs own fun i hi => List.contains_iff_mem.mp (List.all_eq_true.mp ho i hi)⟩
    | _ => exact ha.elim
end Mp

set_option Elab.async false
set_option linter.all false
set_option maxRecDepth 100000
set_option autoImplicit false
set_option maxHeartbeats 2000000
/-! Mini11: each construct of an expression. -/
namespace Mp
open PySem PySem.Spec PyProof.Rows L2
theorem anyS {α : Type} {o : Option α} {p : α → Bool} (h : o.any p = true) : ∃ a, o = some a ∧ p a = true := by
  cases o with
  | none => cases h
  | some a => exact ⟨a, rfl, h⟩
section
variable {Z : Zt} {C : Call} {W : WX} {F : Facts} {N : List Str} {sc : Scope} {X : Cx}
theorem sd_var (g : Good Z C W F N sc X) {i : Nat} {x : Expr} (h : chk F N sc (.var i) x = true) : PE X x (tI Z W (ev C (.var i))) ∧ plainT x = true := by
  obtain ⟨n, h1, h2⟩ := anyS h
  obtain ⟨h2, h3⟩ := and2 h2
  obtain ⟨h4, h5⟩ := and2 h2
  obtain ⟨p, rfl⟩ := vName_eq h1
  obtain ⟨d1, d2, _⟩ := okB_d h3
  refine ⟨PEi (pe_var (i := i) (by rw [g.hN]; exact of_decide_eq_true h4) (by rw [g.hsc]; exact visB_v h5) d1 d2) fun σ H Q ⟨m, S, r, P, PX, b, h, k⟩ => ?_, rfl⟩
  simp only [ev] at h
  obtain ⟨v, e1, e2⟩ := h
  obtain ⟨y, e3, e4⟩ := b.re.at' i v e1
  exact ⟨y, e3, k.same b.rep e2 e4⟩
theorem sd_glo (g : Good Z C W F N sc X) {y : String} {v : Val} {x : Expr} (h : chk F N sc (.glo y v) x = true) : PE X x (tI Z W (ev C (.glo y v))) ∧ plainT x = true := by
  obtain ⟨n, h1, h2⟩ := anyS h
  obtain ⟨h2, h6⟩ := and2 h2
  obtain ⟨h2, h3⟩ := and2 h2
  obtain ⟨h4, h5⟩ := and2 h2
  obtain ⟨p, rfl⟩ := vName_eq h1
  obtain ⟨d1, d2, _⟩ := okB_d h3
  obtain ⟨q, hq, h7⟩ := List.any_eq_true.mp h6
  obtain ⟨h8, h9⟩ := and2 h7
  have e1 : q.1 = y := by simpa using h8
  have e2 := valB_eq h9
  have e3 : n = Str.ofString y := of_decide_eq_true h4
  obtain ⟨u, z, hu, hr, hv⟩ := g.cn q hq
  rw [e1, ← e3] at hu
  refine ⟨PEi (pe_glob (glB_g (by rw [g.hsc]; exact h5)) hu hr d1) fun σ H Q ⟨m, S, r, P, PX, b, h, k⟩ => ?_, rfl⟩
  simp only [ev] at h
  exact k.same b.rep h (by rw [← e2]; exact hv m H)
theorem sd_con {v : Val} {x : Expr} (h : chk F N sc (.con v) x = true) : PE X x (tI Z W (ev C (.con v))) ∧ plainT x = true := by
  obtain ⟨n, h1, h2⟩ := anyS h
  obtain ⟨k, p, rfl⟩ := vCon_eq h1
  exact ⟨conB_r h2, rfl⟩
theorem sd_bin (g : Good Z C W F N sc X) {o : Bop} {a b : E} {x y : Expr} {pos : Pos} (ha : PE X x (tI Z W (ev C a))) (hb : PE X y (tI Z W (ev C b))) : PE X (.BinOp x (bop o) y pos) (tI Z W (ev C (.bin o a b))) :=
  PEi (pe_op (opB Z X g.hK o) ha hb) fun σ H Q ⟨m, S, r, P, PX, bs, h, k⟩ => by
    simp only [ev] at h
    exact mkI bs h fun v S1 m1 H1 x1 h1 g1 b1 r1 => mkI b1 h1 fun u S2 m2 H2 x2 h2 g2 b2 r2 => ⟨m2, S2, v, u, P, b2.rep, RV.grow b1.rep g2 _ _ r1, r2, h2, (k.grow g1).grow g2⟩
theorem sd_neg (g : Good Z C W F N sc X) {a : E} {x : Expr} {pos : Pos} (ha : PE X x (tI Z W (ev C a))) : PE X (.UnaryOp .USub x pos) (tI Z W (ev C (.neg a))) :=
  PEi (pe_un un_neg ha) fun σ H Q ⟨m, S, r, P, PX, bs, h, k⟩ => by
    simp only [ev] at h
    exact mkI bs h fun v S1 m1 H1 x1 ⟨i, e, h1⟩ g1 b1 r1 => by
      subst e
      simp only [RV] at r1
      exact ⟨i, r1, (k.grow g1).int b1.rep h1⟩
theorem sd_not (g : Good Z C W F N sc X) {a : E} {x : Expr} {pos : Pos} (ha : PE X x (tI Z W (ev C a))) (ht : PT X x (tT Z W (ev C a))) : PE X (.UnaryOp .Not x pos) (tI Z W (ev C (.not a))) ∧ PT X (.UnaryOp .Not x pos) (tT Z W (ev C (.not a))) := by
  refine ⟨PEi (pe_notT ha) fun σ H Q ⟨m, S, r, P, PX, bs, h, k⟩ => ?_, PTi (pt_not ht) fun σ H Q ⟨m, S, r, P, PX, bs, h, k⟩ => ?_⟩
  · simp only [ev] at h
    exact mkI bs h fun v S1 m1 H1 x1 ⟨i, e, h1⟩ g1 b1 r1 => ⟨i, by rw [g.hK]; exact truV_V b1.rep r1 e, (k.grow g1).bl b1.rep h1⟩
  · simp only [ev] at h
    refine mkT bs h fun v S1 m1 H1 ⟨i, e, h1⟩ g1 b1 => ⟨i, e, ?_⟩
    obtain ⟨k2, h2, h3⟩ := k _ _ _ _ h1 g1 b1.rep
    cases truV_bl h2
    exact h3
theorem sd_cmp (g : Good Z C W F N sc X) {o : Cop} {a b : E} {x y : Expr} {pos : Pos} (ok : okX y = true) (ha : PE X x (tI Z W (ev C a))) (hb : PE X y (tI Z W (ev C b))) :
    PE X (.Compare x [cop o] [y] pos) (tI Z W (ev C (.cmp o a b))) ∧ PT X (.Compare x [cop o] [y] pos) (tT Z W (ev C (.cmp o a b))) := by
  refine ⟨PEi (pe_cmpR (opC Z X g.hK g.hu o) ha hb (mark_ok ok _)) fun σ H Q ⟨m, S, r, P, PX, bs, h, k⟩ => ?_, PTi (pt_cmpR (opC Z X g.hK g.hu o) ha hb (mark_ok ok _)) fun σ H Q ⟨m, S, r, P, PX, bs, h, k⟩ => ?_⟩
  · simp only [ev] at h
    exact mkI bs h fun v S1 m1 H1 x1 h1 g1 b1 r1 => mkI b1 h1 fun u S2 m2 H2 x2 h2 g2 b2 r2 => ⟨m2, S2, v, u, P, b2.rep, RV.grow b1.rep g2 _ _ r1, r2, h2, (k.grow g1).grow g2⟩
  · simp only [ev] at h
    refine mkI bs h fun v S1 m1 H1 x1 h1 g1 b1 r1 => mkI b1 h1 fun u S2 m2 H2 x2 h2 g2 b2 r2 => ⟨m2, S2, v, u, _, b2.rep, RV.grow b1.rep g2 _ _ r1, r2, cmpS_bl h2, ?_⟩
    rintro w S3 m3 H3 z ⟨⟨t, rfl⟩, h3⟩ g3 R3 r3
    obtain ⟨k2, h4, h5⟩ := k _ _ _ _ h3 ((g1.trans g2).trans g3) R3
    simp only [RV] at r3
    cases truV_bl h4
    exact ⟨_, r3, h5⟩
theorem marks_ok {p q : CmpOp} {y z : Expr} (h : okX z = true) : lastMarks [p, q] [y, z] = false := mark_ok h q
theorem sd_cmp2 (g : Good Z C W F N sc X) {o p : Cop} {a b c : E} {x y z : Expr} {pos : Pos} (ok : okX z = true) (ha : PE X x (tI Z W (ev C a))) (hb : PE X y (tI Z W (ev C b))) (hc : PE X z (tI Z W (ev C c))) :
    PE X (.Compare x [cop o, cop p] [y, z] pos) (tI Z W (ev C (.cmp2 o p a b c))) ∧ PT X (.Compare x [cop o, cop p] [y, z] pos) (tT Z W (ev C (.cmp2 o p a b c))) := by
  refine ⟨PEi (pe_chain (opC Z X g.hK g.hu o) (opC Z X g.hK g.hu p) ha hb hc (marks_ok ok)) fun σ H Q ⟨m, S, r, P, PX, bs, h, k⟩ => ?_,
    PTi (pt_chain (opC Z X g.hK g.hu o) (opC Z X g.hK g.hu p) ha hb hc (marks_ok ok)) fun σ H Q ⟨m, S, r, P, PX, bs, h, k⟩ => ?_⟩
  · simp only [ev] at h
    refine mkI bs h fun v S1 m1 H1 x1 h1 g1 b1 r1 => mkI b1 h1 fun u S2 m2 H2 x2 h2 g2 b2 r2 => ⟨m2, S2, v, u, _, b2.rep, RV.grow b1.rep g2 _ _ r1, r2, h2, ?_⟩
    rintro w S3 m3 H3 zz ⟨t, rfl, h3⟩ g3 R3 r3
    simp only [RV] at r3
    refine ⟨t, r3, ?_⟩
    have k3 := ((k.grow g1).grow g2).grow g3
    have b3 := b2.grow g3 R3
    cases t with
    | true =>
      rw [if_pos rfl] at h3 ⊢
      exact mkI b3 h3 fun w2 S4 m4 H4 x4 h4 g4 b4 r4 => ⟨m4, S4, u, w2, P, b4.rep, RV.grow b3.rep g4 _ _ (RV.grow b2.rep g3 _ _ r2), r4, h4, k3.grow g4⟩
    | false =>
      rw [if_neg (by decide)] at h3 ⊢
      exact k3.bl R3 h3
  · simp only [ev] at h
    refine mkI bs h fun v S1 m1 H1 x1 h1 g1 b1 r1 => mkI b1 h1 fun u S2 m2 H2 x2 h2 g2 b2 r2 => ⟨m2, S2, v, u, _, b2.rep, RV.grow b1.rep g2 _ _ r1, r2, h2, ?_⟩
    rintro w S3 m3 H3 zz ⟨t, rfl, h3⟩ g3 R3 r3
    simp only [RV] at r3
    refine ⟨t, r3, ?_⟩
    have g13 := (g1.trans g2).trans g3
    have b3 := b2.grow g3 R3
    cases t with
    | true =>
      rw [if_pos rfl] at h3 ⊢
      refine mkI b3 h3 fun w2 S4 m4 H4 x4 h4 g4 b4 r4 => ⟨m4, S4, u, w2, _, b4.rep, RV.grow b3.rep g4 _ _ (RV.grow b2.rep g3 _ _ r2), r4, cmpS_bl h4, ?_⟩
      rintro w S5 m5 H5 z ⟨⟨t, rfl⟩, h5⟩ g5 R5 r5
      obtain ⟨k2, h6, h7⟩ := k _ _ _ _ h5 ((g13.trans g4).trans g5) R5
      simp only [RV] at r5
      cases truV_bl h6
      exact ⟨_, r5, h7⟩
    | false =>
      rw [if_neg (by decide)] at h3 ⊢
      obtain ⟨k2, h6, h7⟩ := k _ _ _ _ h3 g13 R3
      cases truV_bl h6
      exact ⟨_, rfl, h7⟩
theorem sd_ite (g : Good Z C W F N sc X) {c a b : E} {x y z : Expr} {pos : Pos} (hc : PT X z (tT Z W (ev C c))) (ha : PE X x (tI Z W (ev C a))) (hb : PE X y (tI Z W (ev C b))) (ta : PT X x (tT Z W (ev C a))) (tb : PT X y (tT Z W (ev C b))) :
    PE X (.IfExp z x y pos) (tI Z W (ev C (.ite c a b))) ∧ PT X (.IfExp z x y pos) (tT Z W (ev C (.ite c a b))) := by
  refine ⟨PEi (pe_ifExp hc ha hb) fun σ H Q ⟨m, S, r, P, PX, bs, h, k⟩ => ?_, ⟨fun pins s σ H Q I ⟨m, S, r, P, PX, bs, h, k⟩ => ?_⟩⟩
  · simp only [ev] at h
    refine mkT bs h fun v S1 m1 H1 ⟨i, e, h1⟩ g1 b1 => ⟨i, e, ?_⟩
    cases i with
    | true => rw [if_pos rfl] at h1 ⊢; exact ⟨_, _, _, _, _, b1, h1, k.grow g1⟩
    | false => rw [if_neg (by decide)] at h1 ⊢; exact ⟨_, _, _, _, _, b1, h1, k.grow g1⟩
  · simp only [ev] at h
    refine PyProof.Rows.isTrue_IfExp (thn (hc.run pins s σ H (fun i H1 => if i = true then tT Z W (ev C a) σ H1 Q else tT Z W (ev C b) σ H1 Q) I (mkT bs h fun v S1 m1 H1 ⟨i, e, h1⟩ g1 b1 => ⟨i, e, ?_⟩)) fun i s1 ⟨H1, I1, q1⟩ => ?_)
    · cases i with
      | true => rw [if_pos rfl] at h1 ⊢; exact ⟨_, _, _, _, _, b1, h1, fun v S' m' H' p g R => k v S' m' H' p (g1.trans g) R⟩
      | false => rw [if_neg (by decide)] at h1 ⊢; exact ⟨_, _, _, _, _, b1, h1, fun v S' m' H' p g R => k v S' m' H' p (g1.trans g) R⟩
    · cases i with
      | true => rw [if_pos rfl] at q1 ⊢; exact ta.run pins s1 σ H1 Q I1 q1
      | false => rw [if_neg (by decide)] at q1 ⊢; exact tb.run pins s1 σ H1 Q I1 q1
theorem sd_tup {l : Es} {es : List Expr} {kk : Nat} {pos : Pos} (ha : PA X es (tL Z W (evs C l))) : PE X (.Tuple es kk pos) (tI Z W (ev C (.tup l))) :=
  PEi (pe_tup ha) fun σ H Q ⟨m, S, r, P, PX, bs, h, k⟩ => by
    simp only [ev] at h
    exact mkL bs h fun v S1 m1 H1 x1 ⟨hl, h1⟩ g1 b1 r1 => ⟨by rw [sz, ← r1.len]; exact hl, fun p hp => (k.grow g1).tup b1.rep h1 r1 hp⟩
theorem sd_lst {l : Es} {es : List Expr} {pos : Pos} (ha : PA X es (tL Z W (evs C l))) : PE X (.List es pos) (tI Z W (ev C (.lst l))) :=
  PEi (pe_lst ha) fun σ H Q ⟨m, S, r, P, PX, bs, h, k⟩ => by
    simp only [ev] at h
    exact mkL bs h fun v S1 m1 H1 x1 ⟨hl, h1⟩ g1 b1 r1 => ⟨by rw [sz, ← r1.len]; exact hl, fun p hp => (k.grow g1).alloc b1.rep h1 r1 hp⟩
theorem op_eqnil {X : Cx} (hu : X.A.units + 64 < cLine) : OpR X (compareOp .Eq) (fun x y H Q => ∃ a b xs, x = .ref a ∧ y = .ref b ∧ SqL X.K H a xs ∧ SqL X.K H b [] ∧ Q (.bl xs.isEmpty) H) := by
  intro pins s σ H x y v u Q I rx ry h
  obtain ⟨a, b, xs, rfl, rfl, ha, hb, q⟩ := h
  cases rx
  cases ry
  obtain ⟨its, rv, hl, _⟩ := I.list ha
  obtain ⟨its2, rv2, hl2, _⟩ := I.list hb
  cases rv2
  cases xs with
  | nil =>
    cases rv
    refine PySem.SeqAt.eq_listAt (e := fun _ => true) hl.isList hl2.isList rfl (by omega) (fun j h1 h2 => by simp at h1) (fin_bl I q (by simp))
  | cons x xs =>
    cases rv with
    | cons r1 r2 => exact PySem.SeqAt.eq_list_lengthsAt hl.isList hl2.isList (by simp) (by omega) (fin_bl I q rfl)
theorem atI_V {K : PySem.W.Frag} {H : Hp} {m : List Addr} {l : List Val} {xs : List V} (r : RVs K H m l xs) {i : Int} {v : Val} (h : atI l i = some v) : ∃ x, atI xs i = some x ∧ RV K H m v x := by
  unfold atI at h ⊢
  rw [← r.len]
  cases q : ixN l.length i with
  | none => rw [q] at h; cases h
  | some j => rw [q] at h; exact r.get h
theorem sd_ix (g : Good Z C W F N sc X) {a b : E} {x y : Expr} {pos : Pos} (ok : okX y = true) (ha : PE X x (tI Z W (ev C a))) (hb : PE X y (tI Z W (ev C b))) : PE X (.Subscript x y pos) (tI Z W (ev C (.ix a b))) :=
  PEi (pe_ix ix_seq ha hb (plain_ok ok)) fun σ H Q ⟨m, S, r, P, PX, bs, h, k⟩ => by
    simp only [ev] at h
    refine mkI bs h fun v S1 m1 H1 x1 h1 g1 b1 r1 => mkI b1 h1 fun u S2 m2 H2 x2 h2 g2 b2 r2 => ?_
    have r1' := RV.grow b1.rep g2 _ _ r1
    have k2 := (k.grow g1).grow g2
    unfold ixS at h2
    split at h2
    · obtain ⟨w, e, h3⟩ := h2
      simp only [RV] at r1' r2
      obtain ⟨p, xs, rfl, hs, rs⟩ := r1'
      obtain ⟨z, e2, rz⟩ := atI_V rs e
      exact .inr (.inl ⟨p, xs, _, z, rfl, r2, by rw [g.hK]; exact hs, e2, k2.same b2.rep h3 rz⟩)
    · obtain ⟨l, w, e0, e, h3⟩ := h2
      simp only [RV] at r1' r2
      obtain ⟨p, hp, rfl⟩ := r1'
      obtain ⟨xs, hs, rs⟩ := b2.rep.rd e0 hp
      obtain ⟨z, e2, rz⟩ := atI_V rs e
      exact .inl ⟨p, xs, _, z, rfl, r2, by rw [g.hK]; exact hs, e2, k2.same b2.rep h3 rz⟩
    · obtain ⟨c, e0, e, h3⟩ := h2
      simp only [RV] at r1' r2
      exact .inr (.inr ⟨_, _, c, r1', r2, by rw [sz]; exact e0, e, k2.str b2.rep h3⟩)
    · exact h2.elim
end
end Mp

set_option Elab.async false
set_option linter.all false
set_option maxRecDepth 100000
set_option autoImplicit false
set_option maxHeartbeats 2000000
/-! Mini12: slices, calls, methods, what is walked. -/
namespace Mp
open PySem PySem.Spec PyProof.Rows L2
section
variable {Z : Zt} {C : Call} {W : WX} {F : Facts} {N : List Str} {sc : Scope} {X : Cx}
theorem sd_es_nil : PA X [] (tL Z W (evs C .nil)) :=
  PAi pa_nil fun σ H Q ⟨m, S, r, P, PX, b, h, k⟩ => by
    simp only [evs] at h
    exact k _ _ _ _ _ h Grow.refl b.rep RVs.nil
/-- both lists of e == [] -/
theorem eqn_lists (g : Good Z C W F N sc X) {m1 m2 : List Addr} {S1 : Sto} {H1 H2 : Hp} {n : Nat} {l : List Val} {x1 x2 : V} (R1 : Rep Z m1 S1 H1) (g2 : Grow m1 H1 m2 H2) (R2 : Rep Z m2 (S1 ++ [.lst []]) H2) (r1 : RV Z.K H1 m1 (.obj n) x1) (h1 : rdL S1 n = some l) (r2 : RV Z.K H2 m2 (.obj S1.length) x2) :
    ∃ a b xs, x1 = .ref a ∧ x2 = .ref b ∧ SqL X.K H2 a xs ∧ SqL X.K H2 b [] ∧ xs.isEmpty = l.isEmpty := by
  have r1' := RV.grow R1 g2 _ _ r1
  simp only [RV] at r1 r1' r2
  obtain ⟨a0, q0, _⟩ := r1
  obtain ⟨a, q1, rfl⟩ := r1'
  obtain ⟨b, q2, rfl⟩ := r2
  have hn : n < S1.length := by rw [← R1.len]; exact (List.getElem?_eq_some_iff.mp q0).1
  have h1' : rdL (S1 ++ [.lst []]) n = some l := by
    unfold rdL at h1 ⊢
    rw [List.getElem?_append_left hn]
    exact h1
  have h2' : rdL (S1 ++ [.lst []]) S1.length = some [] := by
    unfold rdL
    rw [List.getElem?_append_right (Nat.le_refl _), Nat.sub_self]
    rfl
  obtain ⟨ys, s1, rr⟩ := R2.rd h1' q1
  obtain ⟨zs, s2, rz⟩ := R2.rd h2' q2
  simp only [RVs] at rz
  subst rz
  refine ⟨a, b, ys, rfl, rfl, by rw [g.hK]; exact s1, by rw [g.hK]; exact s2, ?_⟩
  have := rr.len
  cases l <;> cases ys <;> first | rfl | simp at this
theorem sd_eqn (g : Good Z C W F N sc X) {e : E} {x : Expr} {p0 pos : Pos} (ha : PE X x (tI Z W (ev C e))) :
    PE X (.Compare x [.Eq] [.List [] p0] pos) (tI Z W (ev C (.eqn e))) ∧ PT X (.Compare x [.Eq] [.List [] p0] pos) (tT Z W (ev C (.eqn e))) := by
  have hb : PE X (.List [] p0) (tI Z W (ev C (.lst .nil))) := sd_lst sd_es_nil
  refine ⟨PEi (pe_cmpR (op_eqnil g.hu) ha hb (mark_ok rfl _)) fun σ H Q ⟨m, S, r, P, PX, bs, h, k⟩ => ?_, PTi (pt_cmpR (op_eqnil g.hu) ha hb (mark_ok rfl _)) fun σ H Q ⟨m, S, r, P, PX, bs, h, k⟩ => ?_⟩
  · simp only [ev] at h
    refine mkI bs h fun v S1 m1 H1 x1 ⟨n, l, e1, h1, h2⟩ g1 b1 r1 => mkI (P := fun y S2 => y = .obj S1.length ∧ S2 = S1 ++ [.lst []]) b1 (by simp [ev, evs, alloc]) fun u S2 m2 H2 x2 ⟨e2, e3⟩ g2 b2 r2 => ?_
    subst e1 e2 e3
    obtain ⟨a, b, xs, q1, q2, q3, q4, q5⟩ := eqn_lists g b1.rep g2 b2.rep r1 h1 r2
    exact ⟨a, b, xs, q1, q2, q3, q4, by rw [q5]; exact ((k.grow g1).grow g2).bl b2.rep h2⟩
  · simp only [ev] at h
    refine mkI bs h fun v S1 m1 H1 x1 ⟨n, l, e1, h1, h2⟩ g1 b1 r1 => mkI (P := fun y S2 => y = .obj S1.length ∧ S2 = S1 ++ [.lst []]) b1 (by simp [ev, evs, alloc]) fun u S2 m2 H2 x2 ⟨e2, e3⟩ g2 b2 r2 => ?_
    subst e1 e2 e3
    obtain ⟨a, b, xs, q1, q2, q3, q4, q5⟩ := eqn_lists g b1.rep g2 b2.rep r1 h1 r2
    obtain ⟨kk, hk1, hk2⟩ := k _ _ _ _ h2 (g1.trans g2) b2.rep
    cases truV_bl hk1
    exact ⟨a, b, xs, q1, q2, q3, q4, _, by rw [q5], hk2⟩
theorem sd_rvs (g : Good Z C W F N sc X) {e : E} {x : Expr} {k : Nat} {p1 p2 p3 pos : Pos} (ha : PE X x (tI Z W (ev C e))) :
    PE X (.Subscript x (.Slice none none (some (.UnaryOp .USub (.Constant (.int 1) k p1) p2)) p3) pos) (tI Z W (ev C (.rvs e))) :=
  PEi (pe_revT ha) fun σ H Q ⟨m, S, r, P, PX, bs, h, kk⟩ => by
    simp only [ev] at h
    exact mkI bs h fun v S1 m1 H1 x1 ⟨l, e1, h1⟩ g1 b1 r1 => by
      subst e1
      simp only [RV] at r1
      obtain ⟨a, ys, rfl, hs, r⟩ := r1
      exact ⟨a, ys, rfl, by rw [g.hK]; exact hs, fun p hp => (kk.grow g1).tup b1.rep h1 r.rev hp⟩
theorem sd_es_cons {e : E} {l : Es} {x : Expr} {xs : List Expr} (ok : okX x = true) (h1 : PE X x (tI Z W (ev C e))) (h2 : PA X xs (tL Z W (evs C l))) : PA X (x :: xs) (tL Z W (evs C (.cons e l))) :=
  PAi (pa_cons h1 h2 (star_ok ok _ _)) fun σ H Q ⟨m, S, r, P, PX, b, h, k⟩ => by
    simp only [evs] at h
    exact mkI b h fun v S1 m1 H1 x1 q1 g1 b1 r1 => mkL b1 q1 fun vs S2 m2 H2 xs2 q2 g2 b2 r2 => k _ _ _ _ _ q2 (g1.trans g2) b2.rep (RVs.cons (RV.grow b1.rep g2 _ _ r1) r2)
theorem sd_o_no : PO X none (tO Z W (evo C .no)) :=
  POi po_none fun σ H Q ⟨m, S, r, P, PX, b, h, k⟩ => by
    simp only [evo] at h
    exact k _ _ _ _ h Grow.refl b.rep
theorem sd_o_so {e : E} {x : Expr} (h1 : PE X x (tI Z W (ev C e))) : PO X (some x) (tO Z W (evo C (.so e))) :=
  POi (po_some h1) fun σ H Q ⟨m, S, r, P, PX, b, h, k⟩ => by
    simp only [evo] at h
    exact mkI b h fun v S1 m1 H1 x1 ⟨i, e, q1⟩ g1 b1 r1 => by
      subst e
      simp only [RV] at r1
      exact ⟨i, r1, k _ _ _ _ q1 g1 b1.rep⟩
theorem cut_V {K : PySem.W.Frag} {H : Hp} {m : List Addr} {l : List Val} {xs : List V} (r : RVs K H m l xs) (lo hi : Option Int) : RVs K H m (cut l lo hi) (cutV xs lo hi) := by
  unfold cut cutV
  rw [← r.len]
  exact (r.drop _).take _
theorem cut_all {α : Type} {l : List α} {lo hi : Option Int} (h1 : HT.sIx l.length 0 lo = 0) (h2 : HT.sIx l.length l.length hi = l.length) : cut l lo hi = l := by
  unfold cut
  rw [h1, h2, List.drop_zero, Nat.sub_zero, List.take_length]
theorem sd_sl0 (g : Good Z C W F N sc X) {a : E} {lo hi : Eo} {x : Expr} {o1 o2 : Option Expr} {pos p2 : Pos} (ha : PE X x (tI Z W (ev C a))) (h1 : PO X o1 (tO Z W (evo C lo))) (h2 : PO X o2 (tO Z W (evo C hi))) :
    PE X (.Subscript x (.Slice o1 o2 none p2) pos) (tI Z W (ev C (.sl a lo hi .no))) :=
  PEi (pe_slice (SlR.or sl_str (SlR.or sl_list sl_tupA)) ha h1 h2) fun σ H Q ⟨m, S, r, P, PX, bs, h, k⟩ => by
    simp only [ev, evo] at h
    refine mkI bs h fun v S1 m1 H1 x1 q1 g1 b1 r1 => mkO b1 q1 fun l S2 m2 H2 q2 g2 b2 => mkO b2 q2 fun u S3 m3 H3 q3 g3 b3 => ?_
    have r3 := RV.grow b1.rep (g2.trans g3) _ _ r1
    have k3 := k.grow (g1.trans (g2.trans g3))
    unfold slS at q3
    split at q3
    · simp only [RV] at r3
      rename_i l' _
      have r0 : RV Z.K H3 m3 (.tup l') x1 := by simp only [RV]; exact r3
      obtain ⟨p, xs, rfl, hs, rs⟩ := r3
      refine .inr (.inr ⟨p, xs, rfl, by rw [g.hK]; exact hs, fun hw => ?_, fun _ q hq => k3.tup b3.rep q3 (cut_V rs _ _) hq⟩)
      rw [← rs.len] at hw
      rw [cut_all hw.1 hw.2] at q3
      exact k3.same b3.rep q3 r0
    · rename_i h0
      exact absurd h0 (by simp)
    · obtain ⟨l', e0, q4⟩ := q3
      simp only [RV] at r3
      obtain ⟨p, hp, rfl⟩ := r3
      obtain ⟨xs, hs, rs⟩ := b3.rep.rd e0 hp
      exact .inr (.inl ⟨p, xs, rfl, by rw [g.hK]; exact hs, fun q hq => k3.alloc b3.rep q4 (cut_V rs _ _) hq⟩)
    · simp only [RV] at r3
      subst r3
      exact .inl ⟨_, rfl, by rw [sz]; exact q3.1, k3.str b3.rep q3.2⟩
    · exact q3.elim
theorem sd_sl3 (g : Good Z C W F N sc X) {a : E} {lo hi : Eo} {st : E} {x y : Expr} {o1 o2 : Option Expr} {pos p2 : Pos} (ha : PE X x (tI Z W (ev C a))) (h1 : PO X o1 (tO Z W (evo C lo))) (h2 : PO X o2 (tO Z W (evo C hi))) (h3 : PO X (some y) (tO Z W (evo C (.so st)))) :
    PE X (.Subscript x (.Slice o1 o2 (some y) p2) pos) (tI Z W (ev C (.sl a lo hi (.so st)))) :=
  PEi (pe_slice3 (sl_st Z X g.hK) ha h1 h2 h3) fun σ H Q ⟨m, S, r, P, PX, bs, h, k⟩ => by
    have h' : ev C a r S (fun x S1 => evo C lo r S1 (fun l S2 => evo C hi r S2 (fun h S3 => evo C (.so st) r S3 (fun t S4 => (∃ k, t = some k) ∧ slS x l h t S4 P) PX) PX) PX) PX := by
      simp only [ev, evo] at h ⊢
      simpa using h
    exact mkI bs h' fun v S1 m1 H1 x1 q1 g1 b1 r1 => mkO b1 q1 fun l S2 m2 H2 q2 g2 b2 => mkO b2 q2 fun u S3 m3 H3 q3 g3 b3 => mkO b3 q3 fun t S4 m4 H4 ⟨ht, q4⟩ g4 b4 =>
      ⟨m4, S4, v, P, b4.rep, RV.grow b1.rep (g2.trans (g3.trans g4)) _ _ r1, ht, q4, k.grow (g1.trans (g2.trans (g3.trans g4)))⟩
/-- the callee runs under the handled exception -/
theorem runX {X : Cx} {pp : Addr × PySem.Obj} {k : Nat} {f : Addr} {fd : FuncData} {ps : List Str} {sp : Sp} {E : L2.St → XK} (F : FnX X.prog X.w X.K X.mg X.base pp k f fd ps sp) (hr : L2H.RoomH k X.A) (hp1 : pp ∈ X.pn) (hb : Binds X.K fd ps []) {pins : List (Addr × PySem.Obj)} {σ : L2.St} (hx : PassesAt (L2.CX X.prog X.w) X σ (E σ))
    {H : Hp} {s : Shared} {Q : VK} {us : List Value} {vs : List V} (I : Inv X pins σ H s) (r : Vals vs us) (h : sp vs H Q (E σ)) : wpAny (model X.prog X.w) X.A (call (.ref f) us) (EP X pins σ Q) X.xe s := by
  have hl : us.length = ps.length := by rw [← r.length]; exact F.len _ _ _ _ h
  have b := hb s us I.kIn (by rw [List.append_nil]; exact hl)
  rw [List.append_nil] at b
  obtain ⟨i1, i2, i3, i4, i5⟩ := I.pin pp (List.mem_append_left _ hp1)
  have pin : L2H.PinOk X.stack H s pp := by
    refine ⟨i1, i2, fun hm => ?_, i5⟩
    rcases List.mem_cons.mp (I.stkSub pp.1 hm) with q | q
    · exact i3 q
    · exact i4 q
  refine wpAny_call (codeAny_mono (F.run X.A X.stack s H ⟨us, []⟩ us vs Q (E σ) hr pin I.env0 b r h) fun r s' hq => ?_)
  match r, hq with
  | .error e, hq => exact hx pins H s e s' I hq
  | .ok (.ret u), hq => exact I.after hq
  | .ok .next, hq => exact hq.elim
  | .ok .brk, hq => exact hq.elim
  | .ok .cont, hq => exact hq.elim
theorem callX {X : Cx} {pp : Addr × PySem.Obj} {k : Nat} {f : Addr} {fd : FuncData} {ps : List Str} {sp : Sp} {E : L2.St → XK} {x : Str} {p pos : Pos} {e : Expr} {es : List Expr} {t : TA} (F : FnX X.prog X.w X.K X.mg X.base pp k f fd ps sp) (hr : L2H.RoomH k X.A) (hp1 : pp ∈ X.pn) (hg : Gl X x) (hm : X.mg x = some (.ref f)) (hk : PySem.W.keepIn X.K (.ref f) = true)
    (hb : Binds X.K fd ps []) (hx : ∀ σ, PassesAt (L2.CX X.prog X.w) X σ (E σ)) (ha : PA X (e :: es) t) (hdb : (x == ("__debug__" : Str)) = false) (h1 : starEach (e :: es) X.env = (false, eval e X.env) :: starEach es X.env) (h2 : (backTo pos (starEach es X.env)).any (·.1) = false) :
    PE X (.Call (.Name x p) (e :: es) [] pos) (tCallS sp E t) :=
  ⟨fun pins s σ H Q I h => wpAny_Call_Name_kw (ld_glob I hg hm (PySem.W.callWith_K (h₀ := X.base) I.ok.mod.kin hk (thn (ha.run pos pins s σ H _ I h) fun us s1 ⟨vs, H1, I1, r, q⟩ => ⟨I1.kIn, runX F hr hp1 hb (hx σ) I1 r q⟩) h1 h2) hdb)⟩
/-- a call of a def -/
theorem sd_call (g : Good Z C W F N sc X) {f : String} {l : Es} {x : Expr} {es : List Expr} (h : chk F N sc (.call f l) x = true) (hv : ∀ v, vCall x = some v → PA X v.2 (tL Z W (evs C l))) : PE X x (tI Z W (ev C (.call f l))) ∧ plainT x = true := by
  obtain ⟨⟨n, es⟩, h1, h2⟩ := anyS h
  have ha := hv _ h1
  obtain ⟨h2, h8⟩ := and2 h2
  obtain ⟨h2, h7⟩ := and2 h2
  obtain ⟨h2, h6⟩ := and2 h2
  obtain ⟨h4, h5⟩ := and2 h2
  obtain ⟨h9, h4⟩ := and2 h4
  obtain ⟨p, q, rfl⟩ := vCall_eq h1
  obtain ⟨d1, d2, _⟩ := okB_d h6
  have e3 : n = Str.ofString f := of_decide_eq_true h4
  have gl : Gl X n := glB_g (by rw [g.hsc]; exact h5)
  have fin : ∀ σ H Q, tI Z W (ev C (.call f l)) σ H Q → tCallS (spI Z C f) (WE W) (tL Z W (evs C l)) σ H Q := by
    intro σ H Q ⟨m, S, r, P, PX, bs, h, k⟩
    simp only [ev] at h
    refine mkL bs h fun vs S1 m1 H1 xs q1 g1 b1 r1 => ⟨m1, S1, vs, P, PX, b1.rep, r1, q1, k.grow g1, fun e S' m' H' cls d p g2 R2 rx => b1.kx e S' m' H' cls d p g2 R2 rx⟩
  refine ⟨?_, rfl⟩
  by_cases hk2 : F.kind = 2
  · obtain ⟨pp, k, a, fd, ps, hp1, hf, hr, hm, hk, hb⟩ := g.fnx hk2 f (List.contains_iff_mem.mp h7)
    rw [← e3] at hm
    cases es with
    | nil => rw [hk2] at h9; cases h9
    | cons e0 es =>
      have oks := chks_ok h8
      exact PEi (callX hf hr hp1 gl hm hk hb (fun σ => passAt g.tk σ) ha d1 (star_ok (oks e0 List.mem_cons_self) _ _) (stars_no _ _ fun x hx => oks x (List.mem_cons_of_mem _ hx))) fin
  obtain ⟨k, a, fd, ps, hf, hr, hm, hk, hb, _⟩ := g.fn hk2 f (List.contains_iff_mem.mp h7)
  rw [← e3] at hm
  have ggd : decide (F.kind = 0) = true → X.A.guards = some [] := fun q => g.gd (of_decide_eq_true q)
  cases es with
  | nil =>
    refine PEi (callG0 hf hr ggd gl hm hk hb (fun σ => passAt g.tk σ) d1) fun σ H Q h0 => ?_
    obtain ⟨m, S, r, P, PX, bs, h, k⟩ := h0
    cases l with
    | nil =>
      simp only [ev, evs] at h
      exact ⟨m, S, [], P, PX, bs.rep, RVs.nil, h, k, fun e S' m' H' cls d p g2 R2 rx => bs.kx e S' m' H' cls d p g2 R2 rx⟩
    | cons e l => simp [chks] at h8
  | cons e0 es =>
    have oks := chks_ok h8
    refine PEi (callG hf hr ggd gl hm hk hb (fun σ => passAt g.tk σ) ha d1 (star_ok (oks e0 List.mem_cons_self) _ _) (stars_no _ _ fun x hx => oks x (List.mem_cons_of_mem _ hx))) fin
/-- a def as a value -/
theorem sd_fnv (g : Good Z C W F N sc X) {f : String} {x : Expr} (h : chk F N sc (.fnv f) x = true) : PE X x (tI Z W (ev C (.fnv f))) ∧ plainT x = true := by
  obtain ⟨n, h1, h2⟩ := anyS h
  obtain ⟨h2, h3⟩ := and2 h2
  obtain ⟨h2, h4⟩ := and2 h2
  obtain ⟨h5, h6⟩ := and2 h2
  obtain ⟨p, rfl⟩ := vName_eq h1
  obtain ⟨d1, d2, _⟩ := okB_d h3
  have e3 : n = Str.ofString f := of_decide_eq_true h6
  subst e3
  have gl : Gl X (Str.ofString f) := glB_g (by rw [g.hsc]; exact h4)
  refine ⟨⟨fun pins s σ H Q I ⟨m, S, r, P, PX, b, h, k⟩ => ?_⟩, rfl⟩
  simp only [ev] at h
  obtain ⟨_, a, hm, hP⟩ := g.fv (of_decide_eq_true h5) f S P PX h
  exact (pe_glob (pos := p) gl hm (show RelV (V.ref a) (Value.ref a) from rfl) d1).run pins s σ H Q I (k.same b.rep hP (by simp only [RV]))
/-- a call of what a name holds -/
theorem sd_callv (g : Good Z C W F N sc X) {i : Nat} {l : Es} {x : Expr} (h : chk F N sc (.callv i l) x = true) (hv : ∀ v, vCall x = some v → PA X v.2 (tL Z W (evs C l))) : PE X x (tI Z W (ev C (.callv i l))) ∧ plainT x = true := by
  obtain ⟨⟨n, es⟩, h1, h2⟩ := anyS h
  have ha := hv _ h1
  obtain ⟨h2, h8⟩ := and2 h2
  obtain ⟨h2, h7⟩ := and2 h2
  obtain ⟨h2, h6⟩ := and2 h2
  obtain ⟨h2, h5⟩ := and2 h2
  obtain ⟨h2, h4⟩ := and2 h2
  obtain ⟨hk2, h3⟩ := and2 h2
  have hk2 := of_decide_eq_true hk2
  obtain ⟨p, q, rfl⟩ := vCall_eq h1
  obtain ⟨d1, d2, _⟩ := okB_d h6
  have ggd : decide (F.kind = 0) = true → X.A.guards = some [] := fun q => g.gd (of_decide_eq_true q)
  refine ⟨⟨fun pins s σ H Q I ⟨m, S, r, P, PX, b, h0, k⟩ => ?_⟩, rfl⟩
  simp only [ev] at h0
  obtain ⟨a, f, e1, hC, hE⟩ := h0
  obtain ⟨hf, a', hm, e2⟩ := g.fv hk2 f S _ _ hC
  cases e2
  have hfn : f ∈ F.fns := List.contains_iff_mem.mp (List.all_eq_true.mp h3 f hf)
  obtain ⟨kk, a2, fd, ps, hF, hr, hm2, hk, hb, _⟩ := g.fn hk2 f hfn
  rw [hm] at hm2
  cases hm2
  cases es with
  | nil => simp at h7
  | cons e0 es =>
    have oks := chks_ok h8
    have s1 := star_ok (oks e0 List.mem_cons_self) es X.env
    have s2 := stars_no X.env q fun x hx => oks x (List.mem_cons_of_mem _ hx)
    obtain ⟨y, e3, e4⟩ := b.re.at' i _ e1
    simp only [RV] at e4
    subst e4
    refine wpAny_Call_Name_kw (thn ((pe_var (pos := p) (i := i) (by rw [g.hN]; exact of_decide_eq_true h4) (by rw [g.hsc]; exact visB_v h5) d1 d2).run pins s σ H (fun v H1 => v = .ref a ∧ H1 = H) I ⟨.ref a, e3, rfl, rfl⟩) fun u s1' ⟨v, H1, I1, r1, q1⟩ => ?_)
    obtain ⟨rfl, rfl⟩ := q1
    cases r1
    have ht : tL Z W (evs C l) σ H1 fun xs H2 => spI Z C f xs H2 Q (WE W σ) := mkL b hE fun vs S1 m1 H2 xs q1 g1 b1 r1 => ⟨m1, S1, vs, P, PX, b1.rep, r1, q1, k.grow g1, fun e S' m' H' cls d p g2 R2 rx => b1.kx e S' m' H' cls d p g2 R2 rx⟩
    exact PySem.W.callWith_K (h₀ := X.base) I.ok.mod.kin hk (thn (ha.run q pins s1' σ H1 _ I1 ht) fun us s2 ⟨vs, H2, I2, r, q⟩ => ⟨I2.kIn, runG hF hr ggd hb (passAt g.tk σ) I2 r q⟩) s1 s2
/-- a call that leaves the last parameters out -/
theorem runGd {X : Cx} {gd : Bool} {k : Nat} {f : Addr} {fd : FuncData} {ps : List Str} {sp : Sp} {E : L2.St → XK} {dv : List V} {du : List Value} (F : FnG X.prog X.w X.K X.mg X.base gd k f fd ps sp) (hr : Room k X.A) (hgd : gd = true → X.A.guards = some []) (hv : Vals dv du) (hb : Binds X.K fd ps du) {pins : List (Addr × PySem.Obj)} {σ : L2.St} (hx : PassesAt (L2.CX X.prog X.w) X σ (E σ))
    {H : Hp} {s : Shared} {Q : VK} {us : List Value} {vs : List V} (I : Inv X pins σ H s) (r : Vals vs us) (h : sp (vs ++ dv) H Q (E σ)) : wpAny (model X.prog X.w) X.A (call (.ref f) us) (EP X pins σ Q) X.xe s := by
  have r2 : Vals (vs ++ dv) (us ++ du) := r.append hv
  have hl : (us ++ du).length = ps.length := by rw [← r2.length]; exact F.len _ _ _ _ h
  have b := hb s us I.kIn hl
  refine wpAny_call (codeAny_mono (F.run X.A X.stack s H ⟨us, []⟩ (us ++ du) (vs ++ dv) Q (E σ) hr hgd I.env0 b r2 h) fun r s' hq => ?_)
  match r, hq with
  | .error e, hq => exact hx pins H s e s' I hq
  | .ok (.ret u), hq => exact I.after hq
  | .ok .next, hq => exact hq.elim
  | .ok .brk, hq => exact hq.elim
  | .ok .cont, hq => exact hq.elim
theorem sd_calld (g : Good Z C W F N sc X) {f : String} {l : Es} {ds : List Val} {x : Expr} (h : chk F N sc (.calld f l ds) x = true) (hv : ∀ v, vCall x = some v → PA X v.2 (tL Z W (evs C l))) : PE X x (tI Z W (ev C (.calld f l ds))) ∧ plainT x = true := by
  obtain ⟨⟨n, es⟩, h1, h2⟩ := anyS h
  have ha := hv _ h1
  obtain ⟨h2, h8⟩ := and2 h2
  obtain ⟨h2, h7⟩ := and2 h2
  obtain ⟨h2, h9⟩ := and2 h2
  obtain ⟨h2, h6⟩ := and2 h2
  obtain ⟨h4, h5⟩ := and2 h2
  obtain ⟨hk2, h4⟩ := and2 h4
  have hk2 := of_decide_eq_true hk2
  have ggd : decide (F.kind = 0) = true → X.A.guards = some [] := fun q => g.gd (of_decide_eq_true q)
  obtain ⟨p, q, rfl⟩ := vCall_eq h1
  obtain ⟨d1, d2, _⟩ := okB_d h6
  have e3 : n = Str.ofString f := of_decide_eq_true h4
  obtain ⟨pd, hpd, h10⟩ := List.any_eq_true.mp h9
  obtain ⟨h11, h12⟩ := and2 h10
  have e4 : pd.1 = f := by simpa using h11
  have e5 := valsB_eq h12
  obtain ⟨k, a, fd, ps, hf, hr, hm, hk, _, hD⟩ := g.fn hk2 f (List.contains_iff_mem.mp h7)
  obtain ⟨dv, du, hvd, hb, hRd⟩ := hD ds (by rw [← e4, ← e5]; exact hpd)
  rw [← e3] at hm
  have gl : Gl X n := glB_g (by rw [g.hsc]; exact h5)
  refine ⟨?_, rfl⟩
  have fin : ∀ σ H Q, tI Z W (ev C (.calld f l ds)) σ H Q → tL Z W (evs C l) σ H fun xs H1 => spI Z C f (xs ++ dv) H1 Q (WE W σ) := by
    intro σ H Q ⟨m, S, r, P, PX, bs, h, k⟩
    simp only [ev] at h
    refine mkL bs h fun vs S1 m1 H1 xs q1 g1 b1 r1 => ⟨m1, S1, vs ++ ds, P, PX, b1.rep, RVs.app r1 (by rw [← g.hK]; exact hRd m1 H1), q1, k.grow g1, fun e S' m' H' cls d p g2 R2 rx => b1.kx e S' m' H' cls d p g2 R2 rx⟩
  cases es with
  | nil =>
    refine ⟨fun pins s σ H Q I h0 => wpAny_Call_Name_kw (ld_glob I gl hm (PySem.W.callWith_K0 I.kIn hk ?_) d1)⟩
    have h0' := fin σ H Q h0
    obtain ⟨m, S, r, P, PX, bs, h, k0⟩ := h0'
    cases l with
    | nil =>
      simp only [evs] at h
      exact runGd hf hr ggd hvd hb (passAt g.tk σ) I (us := []) (vs := []) .nil (k0 _ _ _ _ [] h Grow.refl bs.rep RVs.nil)
    | cons e l => simp [chks] at h8
  | cons e0 es =>
    have oks := chks_ok h8
    exact ⟨fun pins s σ H Q I h => wpAny_Call_Name_kw (ld_glob I gl hm (PySem.W.callWith_K (h₀ := X.base) I.ok.mod.kin hk (thn (ha.run q pins s σ H _ I (fin σ H Q h)) fun us s1 ⟨vs, H1, I1, r, q1⟩ => ⟨I1.kIn, runGd hf hr ggd hvd hb (passAt g.tk σ) I1 r q1⟩) (star_ok (oks e0 List.mem_cons_self) _ _) (stars_no _ _ fun x hx => oks x (List.mem_cons_of_mem _ hx))) d1)⟩
/-- built-in names -/
theorem biC_ok (g : Good Z C W F N sc X) {n : String} {x : Str} (h : biC F sc n x = true) : x = Str.ofString n ∧ Gl X x ∧ X.mg x = none ∧ (x == ("__debug__" : Str)) = false ∧ x ≠ "__name__" := by
  obtain ⟨h2, h7⟩ := and2 h
  obtain ⟨h2, h6⟩ := and2 h2
  obtain ⟨h4, h5⟩ := and2 h2
  obtain ⟨d1, d2, d3⟩ := okB_d h6
  have e3 : x = Str.ofString n := of_decide_eq_true h4
  refine ⟨e3, glB_g (by rw [g.hsc]; exact h5), ?_, d1, d3⟩
  rw [e3]
  exact g.fr n (List.contains_iff_mem.mp h7)
theorem boot_bi : ∀ f : Bi, bootBuiltins (Str.ofString (biN f)) = some (biV f) := by
  intro f
  cases f <;> decide +kernel
theorem boot_ty {T : String} (h : tyB T = true) : bootBuiltins (Str.ofString T) = some (.type T) := by
  unfold tyB tyOk at h
  simp only [Bool.or_eq_true, beq_iff_eq] at h
  rcases h with ((((rfl | rfl) | rfl) | rfl) | rfl) | rfl <;> decide +kernel
theorem sd_bi (g : Good Z C W F N sc X) {f : Bi} {l : Es} {x : Expr} (h : chk F N sc (.bi f l) x = true) (hv : ∀ v, vCall x = some v → PA X v.2 (tL Z W (evs C l))) : PE X x (tI Z W (ev C (.bi f l))) ∧ plainT x = true := by
  obtain ⟨⟨n, es⟩, h1, h2⟩ := anyS h
  have ha := hv _ h1
  obtain ⟨h2, h8⟩ := and2 h2
  obtain ⟨h2, h7⟩ := and2 h2
  obtain ⟨hk2, h2⟩ := and2 h2
  obtain ⟨hk2, hrp⟩ := and2 hk2
  have hk2 := of_decide_eq_true hk2
  obtain ⟨e, gl, hm, d1, d3⟩ := biC_ok g h2
  obtain ⟨p, q, rfl⟩ := vCall_eq h1
  refine ⟨?_, rfl⟩
  cases es with
  | nil => simp at h7
  | cons e0 es =>
    have oks := chks_ok h8
    have s1 := star_ok (oks e0 List.mem_cons_self) es X.env
    have s2 := stars_no X.env q fun x hx => oks x (List.mem_cons_of_mem _ hx)
    have hb : bootBuiltins n = some (biV f) := by
      have e' : n = Str.ofString (biN f) := e
      rw [e']; exact boot_bi f
    have hc := callBi Z X g.hK (g.calm hk2) g.hu f fun q => g.gd (by rw [q] at hrp; exact of_decide_eq_true hrp)
    have hp : PE X (.Call (.Name n p) (e0 :: es) [] q) (tCB (rBi Z f) (tL Z W (evs C l))) := by
      cases f <;> first | exact pe_callB hc gl hm hb ha d3 d1 s1 s2 | exact pe_callTy hc gl hm hb ha d3 d1 s1 s2
    refine PEi hp fun σ H Q ⟨m, S, r, P, PX, bs, h, k⟩ => ?_
    simp only [ev] at h
    exact mkL bs h fun vs S1 m1 H1 xs q1 g1 b1 r1 => ⟨m1, S1, vs, P, b1.rep, r1, q1, k.grow g1⟩
/-- methods -/
def metTy : Met → String := fun _ => "list"
theorem met_facts : ∀ f : Met, PlainAttrs (metTy f) ∧ Slot (metTy f) (Str.ofString (metN f)) (metV f) ∧ typeOf (.builtin (metV f)) = pure (.type "method_descriptor") := by
  intro f
  cases f
  · exact ⟨PySem.F.plainAttrs_list, PySem.F.slot_list_append, PySem.F.type_list_append⟩
  · exact ⟨PySem.F.plainAttrs_list, PySem.F.slot_list_extend, PySem.F.type_list_extend⟩
  · exact ⟨PySem.F.plainAttrs_list, PySem.F.slot_list_pop, PySem.F.type_list_pop⟩
  · exact ⟨PySem.F.plainAttrs_list, PySem.F.slot_list_index, PySem.F.type_list_index⟩
  · exact ⟨PySem.F.plainAttrs_list, PySem.F.slot_list_count, PySem.F.type_list_count⟩
theorem metT_V {K : PySem.W.Frag} {f : Met} {m : List Addr} {S : Sto} {H : Hp} {o : Val} {x : V} (R : Rep Z m S H) (hK : K = Z.K) (h : metT f o S) (r : RV Z.K H m o x) : tyV K (metTy f) x H := by
  obtain ⟨n, l, rfl, e⟩ := h
  simp only [RV] at r
  obtain ⟨a, ha, rfl⟩ := r
  obtain ⟨xs, hs, _⟩ := R.rd e ha
  subst hK
  exact .inl ⟨rfl, xs, hs⟩
theorem sd_met (g : Good Z C W F N sc X) {f : Met} {o : E} {l : Es} {x : Expr} (h : chk F N sc (.met f o l) x = true) (ho : ∀ v, vMet x = some v → PE X v.1 (tI Z W (ev C o))) (hv : ∀ v, vMet x = some v → PA X v.2.2.1 (tL Z W (evs C l))) : PE X x (tI Z W (ev C (.met f o l))) ∧ plainT x = true := by
  obtain ⟨⟨y, n, es, ln⟩, h1, h2⟩ := anyS h
  have hy := ho _ h1
  have ha := hv _ h1
  obtain ⟨h2, h9⟩ := and2 h2
  obtain ⟨h2, h8⟩ := and2 h2
  obtain ⟨h2, h7⟩ := and2 h2
  obtain ⟨h2, h6⟩ := and2 h2
  obtain ⟨h4, h5⟩ := and2 h2
  obtain ⟨p, q, rfl, hln⟩ := vMet_eq h1
  have e3 : n = Str.ofString (metN f) := of_decide_eq_true h4
  have hl : (p.endLine == q.line) = true := by rw [← hln]; exact h5
  have base := attr_ok (n := n) (env := X.env) (chk_ok h8) (by simpa using h6)
  subst e3
  obtain ⟨m1, m2, m3⟩ := met_facts f
  refine ⟨?_, rfl⟩
  cases es with
  | nil =>
    cases l with
    | cons e l => simp [chks] at h9
    | nil =>
      refine PEi (pe_bm0 m1 m2 m3 (mtMe Z X g.hK f) hy base hl) fun σ H Q ⟨m, S, r, P, PX, bs, h, k⟩ => ?_
      simp only [ev, evs] at h
      exact mkI bs h fun v S1 m1 H1 x1 ⟨q0, q1⟩ g1 b1 r1 => ⟨metT_V b1.rep g.hK q0 r1, m1, S1, v, [], P, b1.rep, r1, RVs.nil, q1, k.grow g1⟩
  | cons e0 es =>
    have oks := chks_ok h9
    have s1 := star_ok (oks e0 List.mem_cons_self) es X.env
    have s2 := stars_no X.env q fun x hx => oks x (List.mem_cons_of_mem _ hx)
    have s3 := stars_few X.env q oks (by have := of_decide_eq_true h7; exact Nat.lt_succ_of_lt this)
    refine PEi (pe_bm m1 m2 m3 (mtMe Z X g.hK f) hy ha base s3 hl s1 s2) fun σ H Q ⟨m, S, r, P, PX, bs, h, k⟩ => ?_
    simp only [ev] at h
    exact mkI bs h fun v S1 m1 H1 x1 ⟨q0, q1⟩ g1 b1 r1 => ⟨metT_V b1.rep g.hK q0 r1, mkL b1 q1 fun vs S2 m2 H2 xs q2 g2 b2 r2 => ⟨m2, S2, v, vs, P, b2.rep, RV.grow b1.rep g2 _ _ r1, r2, q2, k.grow (g1.trans g2)⟩⟩
theorem sd_isi (g : Good Z C W F N sc X) {e : E} {T : String} {x : Expr} (h : chk F N sc (.isi e T) x = true) (hv : ∀ y, chk F N sc e y = true → PE X y (tI Z W (ev C e))) : PE X x (tI Z W (ev C (.isi e T))) ∧ plainT x = true := by
  obtain ⟨⟨n, es⟩, h1, h2⟩ := anyS h
  obtain ⟨h2, h8⟩ := and2 h2
  obtain ⟨h2, h7⟩ := and2 h2
  obtain ⟨e1, gl, hm, d1, d3⟩ := biC_ok g h2
  obtain ⟨p, q, rfl⟩ := vCall_eq h1
  refine ⟨?_, rfl⟩
  dsimp only at h8
  split at h8
  · rename_i y t _ _
    obtain ⟨h9, h10⟩ := and2 h8
    obtain ⟨n2, e2, h11⟩ := anyS h10
    obtain ⟨p2, rfl⟩ := vName_eq e2
    obtain ⟨e3, gl2, hm2, d4, d5⟩ := biC_ok g h11
    have ht : PE X (.Name n2 p2) (tC (V.ty T)) := pe_bltn (u := .type T) gl2 hm2 (by rw [e3]; exact boot_ty h7) rfl d5 d4
    have hp := pe_callB call_isiP gl hm (by rw [e1]; decide +kernel) (pa_cons (hv y h9) (pa_cons ht pa_nil rfl) (star_ok (chk_ok h9) _ _)) d3 d1 (star_ok (chk_ok h9) _ _) (by rfl) (pos := q) (p := p)
    refine PEi hp fun σ H Q ⟨m, S, r, P, PX, bs, h, k⟩ => ?_
    simp only [ev] at h
    refine mkI bs h fun v S1 m1 H1 x1 ⟨b, q0, q1⟩ g1 b1 r1 => ?_
    obtain ⟨t, t1, t2⟩ := tyX_of b1.rep r1 q0
    exact ⟨x1, V.ty T, .type t, .type T, b, rfl, .ty T, by rw [g.hK]; exact t1, by rw [g.hK]; exact t2, (k.grow g1).bl b1.rep q1⟩
  · cases h8
/-- isinstance of the handled exception -/
def rIsX (Z : Zt) (X : Cx) (F : Facts) : List V → Hp → VK → Prop := fun xs H Q => ∃ (a : Addr) (c : String) (w : V) (cv : Value) (b : Bool), xs = [.ref a, w] ∧ ExF Z X F a c ∧ (∀ p ∈ Z.xd, H p.1 = some (.xd p.2)) ∧ (∀ u, RelV w u → u = cv) ∧ (∀ Cc, PySem.W.kitOne X.K (.ref Cc) (.type "ValueError") = some true →
  (∀ T ∈ F.cls, ∃ D, X.mg (Str.ofString T) = some (.ref D) ∧ PySem.W.keepIn X.K (.ref D) = true ∧ PySem.W.kitOne X.K (.ref Cc) (.ref D) = some (isxB c T)) → PySem.W.kitOne X.K (.ref Cc) cv = some b) ∧ Q (.bl b) H
theorem cr_isX {Z : Zt} {X : Cx} {F : Facts} : CallR X (.builtin "isinstance") (rIsX Z X F) := by
  intro pins s σ H xs us Q I r h
  obtain ⟨a, c, w, cv, b, e0, ⟨oe, Cc, d, hp, hz, hdd, hf, hC, hV, hT⟩, hxd, hw, hk, q⟩ := h
  have ek := hk Cc hV hT
  subst e0
  obtain ⟨u1, u2, rfl, r1, r2⟩ := vals2 r
  have e2 := hw _ r2
  subst e2
  cases (show u1 = Value.ref a from r1)
  have hg := (I.pin (a, oe) (List.mem_append_left _ hp)).1
  obtain ⟨vs, hv⟩ := hf
  obtain ⟨od, at_⟩ : ∃ od, PySem.W.InstAt s.heap a oe Cc od := by
    cases hd : d with
    | none =>
      subst hd
      exact ⟨none, hg, hz.1, by unfold PySem.W.notCls; rw [hv] <;> rfl, by rw [hz.2]; exact True.intro⟩
    | some dd =>
      subst hd
      obtain ⟨fs, hm⟩ := hdd dd rfl
      have hx : ObjOk X.prog X.w H s.heap dd (.xd fs) := I.hok dd _ (hxd _ hm)
      obtain ⟨mA, hns, hr⟩ := hx
      obtain ⟨o, ho, _⟩ := lookIn_ns hns
      exact ⟨some o, hg, hz.1, by unfold PySem.W.notCls; rw [hv] <;> rfl, by rw [hz.2]; exact ho⟩
  obtain ⟨cd, hcd, _⟩ := PySem.W.any_some hC.hd
  refine PySem.W.kia_one (PySem.W.kitx_exc (by rw [hcd]; rfl) hC.hg hC.hk hC.hs hC.ha hC.hn hC.ht hC.hm) I.kIn at_ ek (fun z => nomatch z) fun tk => ?_
  exact ⟨.bl b, H, I.tok tk, rfl, q⟩
/-- a field of the handled exception -/
theorem sd_fld (g : Good Z C W F N sc X) {i : Nat} {n : String} {x : Expr} (h : chk F N sc (.fld i n) x = true) : PE X x (tI Z W (ev C (.fld i n))) ∧ plainT x = true := by
  obtain ⟨⟨y, m⟩, h1, h2⟩ := anyS h
  obtain ⟨h2, h3⟩ := and2 h2
  obtain ⟨h2, h4⟩ := and2 h2
  obtain ⟨h2, h5⟩ := and2 h2
  obtain ⟨h6, h7⟩ := and2 h2
  obtain ⟨p, rfl⟩ := vAttr_eq h1
  obtain ⟨z, e2, h8⟩ := anyS h3
  obtain ⟨h8, h9⟩ := and2 h8
  obtain ⟨h8, h10⟩ := and2 h8
  obtain ⟨p2, rfl⟩ := vName_eq e2
  obtain ⟨d1, d2, _⟩ := okB_d h9
  have em : m = Str.ofString n := of_decide_eq_true h5
  subst em
  have hpv := pe_var (X := X) (pos := p2) (i := i) (by rw [g.hN]; exact of_decide_eq_true h8) (by rw [g.hsc]; exact visB_v h10) d1 d2
  refine ⟨⟨fun pins s σ H Q I h => ?_⟩, rfl⟩
  obtain ⟨m, S, r, P, PX, b, h, k⟩ := h
  simp only [ev] at h
  obtain ⟨v, e1, hC⟩ := h
  obtain ⟨u, e3, e4⟩ := b.re.at' i v e1
  obtain ⟨a, c, j, rfl, hP, oe, Cc, dd, fs, hpn, hz, hf, T, hno, hm, hl⟩ := g.fld (of_decide_eq_true h6) h7 n (of_decide_eq_true h4) v S P PX hC
  simp only [RV] at e4
  subst e4
  refine attr_of (by rfl) (thn (hpv.run pins s σ H (fun v H1 => v = .ref a ∧ H1 = H) I ⟨_, e3, rfl, rfl⟩) fun u s1 hh => ?_)
  obtain ⟨x, H1, I1, rx, rfl, rfl⟩ := hh
  obtain rfl : u = Value.ref a := rx
  obtain ⟨ha, _⟩ := I1.pin (a, oe) (List.mem_append_left _ hpn)
  obtain ⟨vs, hd⟩ := hf
  have hx : ObjOk X.prog X.w H1 s1.heap dd (.xd fs) := I1.hok dd _ (b.rep.tabs.2 _ hm)
  obtain ⟨mA, hns, hr⟩ := hx
  obtain ⟨od, ho, hl2⟩ := lookIn_ns hns
  obtain ⟨u, hu, ru⟩ := RelO.some_of (v := .int j) (o := mA (Str.ofString n)) (by rw [← hl]; exact hr _)
  have J : PySem.W.InstAt s1.heap a oe Cc (some od) := ⟨ha, hz.1, by unfold PySem.W.notCls; rw [hd] <;> rfl, by rw [hz.2]; exact ho⟩
  exact HandSPX.exc_get I1.kIn J T.ga T.gg T.exC (PySem.W.findObj_own T.hdC hno rfl (by rw [hl2, hu])) (handed_of ru) ⟨.int j, H1, I1.tok _, ru, k.same b.rep hP (by simp only [RV])⟩
theorem sd_isx (g : Good Z C W F N sc X) {e : E} {T : String} {x : Expr} (h : chk F N sc (.isx e T) x = true) (hv : ∀ y, chk F N sc e y = true → PE X y (tI Z W (ev C e))) : PE X x (tI Z W (ev C (.isx e T))) ∧ plainT x = true := by
  obtain ⟨⟨n, es⟩, h1, h2⟩ := anyS h
  obtain ⟨h2, h8⟩ := and2 h2
  obtain ⟨h2, h7⟩ := and2 h2
  obtain ⟨hk2, hx⟩ := and2 h2
  have hk2 := of_decide_eq_true hk2
  obtain ⟨e1, gl, hm, d1, d3⟩ := biC_ok g h7
  obtain ⟨p, q, rfl⟩ := vCall_eq h1
  refine ⟨?_, rfl⟩
  dsimp only at h8
  split at h8
  · rename_i y t _
    obtain ⟨h9, h10⟩ := and2 h8
    obtain ⟨n2, e2, h11⟩ := anyS h10
    obtain ⟨p2, rfl⟩ := vName_eq e2
    obtain ⟨h11, h12⟩ := and2 h11
    obtain ⟨h11, h13⟩ := and2 h11
    obtain ⟨h11, h14⟩ := and2 h11
    have e3 : n2 = Str.ofString T := of_decide_eq_true h11
    obtain ⟨d4, d5, d6⟩ := okB_d h13
    have gl2 : Gl X n2 := glB_g (by rw [g.hsc]; exact h14)
    obtain ⟨w, cv, ht, hw, hk⟩ : ∃ (w : V) (cv : Value), PE X (.Name n2 p2) (tC w) ∧ (∀ u, RelV w u → u = cv) ∧ ∀ (c : String) Cc, PySem.W.kitOne X.K (.ref Cc) (.type "ValueError") = some true →
        (∀ T ∈ F.cls, ∃ D, X.mg (Str.ofString T) = some (.ref D) ∧ PySem.W.keepIn X.K (.ref D) = true ∧ PySem.W.kitOne X.K (.ref Cc) (.ref D) = some (isxB c T)) → PySem.W.kitOne X.K (.ref Cc) cv = some (isxB c T) := by
      by_cases hT : T ∈ F.cls
      · obtain ⟨Cc, hx1⟩ := g.cl T hT
        refine ⟨.ref Cc, .ref Cc, pe_glob gl2 (by rw [e3]; exact hx1) rfl d4, fun u hu => hu, fun c C2 _ hh => ?_⟩
        obtain ⟨D, q1, q2, q3⟩ := hh T hT
        rw [hx1] at q1
        cases q1
        exact q3
      · have eT : T = "ValueError" := by
          unfold xnB at hx
          rw [Bool.or_eq_true] at hx
          rcases hx with q | q
          · exact absurd (List.contains_iff_mem.mp q) hT
          · simpa using q
        have hfr : T ∈ F.frs := by
          rw [Bool.or_eq_true] at h12
          rcases h12 with q | q
          · exact absurd (List.contains_iff_mem.mp q) hT
          · exact List.contains_iff_mem.mp q
        subst eT
        refine ⟨V.ty "ValueError", .type "ValueError", pe_bltn (u := .type "ValueError") gl2 (by rw [e3]; exact g.fr _ hfr) (by rw [e3]; decide +kernel) rfl d6 d4, fun u hu => hu, fun c C2 hV _ => ?_⟩
        rw [hV]
        simp [isxB]
    have hp := pe_callB (cr_isX (Z := Z) (X := X) (F := F)) gl hm (by rw [e1]; decide +kernel) (pa_cons (hv y h9) (pa_cons ht pa_nil rfl) (star_ok (chk_ok h9) _ _)) d3 d1 (star_ok (chk_ok h9) _ _) (by rfl) (pos := q) (p := p)
    refine PEi hp fun σ H Q ⟨m, S, r, P, PX, bs, h, k⟩ => ?_
    simp only [ev] at h
    refine mkI bs h fun v S1 m1 H1 x1 ⟨a, c, q0, q1, q2⟩ g1 b1 r1 => ?_
    subst q0
    simp only [RV] at r1
    subst r1
    have hE := g.exn hk2 a c S1 _ PX q1
    exact ⟨a, c, w, cv, isxB c T, rfl, hE, b1.rep.tabs.2, hw, fun Cc z1 z2 => hk c Cc z1 z2, (k.grow g1).bl b1.rep q2⟩
  · cases h8
/-- sorted(set(e)) -/
theorem sd_sset (g : Good Z C W F N sc X) {e : E} {x : Expr} (h : chk F N sc (.sset e) x = true) (hv : ∀ y, chk F N sc e y = true → PE X y (tI Z W (ev C e))) : PE X x (tI Z W (ev C (.sset e))) ∧ plainT x = true := by
  obtain ⟨⟨n, es⟩, h1, h2⟩ := anyS h
  obtain ⟨h2, h8⟩ := and2 h2
  obtain ⟨hk2, h2⟩ := and2 h2
  have hk2 := of_decide_eq_true hk2
  obtain ⟨e1, gl, hm, d1, d3⟩ := biC_ok g h2
  obtain ⟨p, q, rfl⟩ := vCall_eq h1
  refine ⟨?_, rfl⟩
  dsimp only at h8 e1 gl hm
  subst e1
  split at h8
  · rename_i y _ _
    obtain ⟨⟨n2, es2⟩, h3, h4⟩ := anyS h8
    obtain ⟨h4, h9⟩ := and2 h4
    obtain ⟨e2, gl2, hm2, d4, d5⟩ := biC_ok g h4
    obtain ⟨p2, q2, rfl⟩ := vCall_eq h3
    dsimp only at h9 e2 gl2 hm2
    subst e2
    split at h9
    · have he := hv _ h9
      have bset : bootBuiltins (Str.ofString "set") = some (.type "set") := by decide +kernel
      have bsor : bootBuiltins (Str.ofString "sorted") = some (.builtin "sorted") := by decide +kernel
      have s1 := fun r => star_ok (chk_ok h9) r X.env
      have ps := pe_callTy (T := "set") (p := p2) (pos := q2) (cr_setL (g.calm hk2)) gl2 hm2 bset (pa_cons he pa_nil (s1 _)) d5 d4 (s1 _) rfl
      refine PEi (pe_callB (p := p) (pos := q) (cr_sortedSet (g.calm hk2)) gl hm bsor (pa_cons ps pa_nil rfl) d3 d1 rfl rfl) fun σ H Q ⟨m, S, r, P, PX, bs, h, k⟩ => ?_
      simp only [ev] at h
      refine mkI bs h fun v S1 m1 H1 x1 ⟨j, l, ns, e, e0, ei, hl, hq⟩ g1 b1 r1 => ?_
      subst e
      simp only [RV] at r1
      obtain ⟨a, ha, rfl⟩ := r1
      obtain ⟨xs, hs, rs⟩ := b1.rep.rd e0 ha
      have ex := rs.ints ei
      subst ex
      refine ⟨a, ns, rfl, by rw [g.hK]; exact hs, hl, fun pp c hp hc => ⟨pp, _, c, rfl, upd_same, by omega, fun out qq o1 o2 o3 hqq => ?_⟩⟩
      have g2 : Grow m1 H1 m1 (upd H1 pp (SetO X.w pp (fun j => decide (j ∈ ns)) c)) := Grow.new hp
      exact ((k.grow g1).grow g2).alloc (b1.rep.new hp) (hq out o1 fun z => by rw [o2 z]; exact decide_eq_true_iff) (RVs.of_ints out) hqq
    · cases h9
  · cases h8
/-- tuple(range(a, b)), list(range(a, b)) -/
theorem rgV_V {K : PySem.W.Frag} {H : Hp} {m : List Addr} {a : Int} : ∀ (l : List Nat), RVs K H m (l.map fun k => .int (a + (k : Nat))) (l.map fun k => V.int (a + (k : Nat)))
  | [] => RVs.nil
  | k :: l => RVs.cons (by simp only [RV]) (rgV_V l)
theorem rg_pe (g : Good Z C W F N sc X) {a b : E} {y : Expr} (hy : ((vCall y).any fun u => biC F sc "range" u.1 && (match u.2 with | [p, q] => chk F N sc a p && chk F N sc b q | _ => false)) = true)
    (ha : ∀ y, chk F N sc a y = true → PE X y (tI Z W (ev C a))) (hb : ∀ y, chk F N sc b y = true → PE X y (tI Z W (ev C b))) :
    PRg X y (tRg2 (tI Z W (ev C a)) (tI Z W (ev C b))) ∧ okX y = true := by
  obtain ⟨⟨n, es⟩, h1, h2⟩ := anyS hy
  obtain ⟨h2, h8⟩ := and2 h2
  obtain ⟨e1, gl, hm, d1, d3⟩ := biC_ok g h2
  obtain ⟨p, q, rfl⟩ := vCall_eq h1
  refine ⟨?_, rfl⟩
  dsimp only at h8 e1 gl hm
  subst e1
  split at h8
  · obtain ⟨h9, h10⟩ := and2 h8
    exact prg_2 gl hm (ha _ h9) (hb _ h10) (star_ok (chk_ok h9) _ _) (star_ok (chk_ok h10) _ _) (stars_no _ _ fun x hx => by simp at hx; rw [hx]; exact chk_ok h10)
  · cases h8
theorem sd_rgt (g : Good Z C W F N sc X) {a b : E} {x : Expr} (h : chk F N sc (.rgt a b) x = true) (ha : ∀ y, chk F N sc a y = true → PE X y (tI Z W (ev C a))) (hb : ∀ y, chk F N sc b y = true → PE X y (tI Z W (ev C b))) :
    PE X x (tI Z W (ev C (.rgt a b))) ∧ plainT x = true := by
  obtain ⟨⟨n, es⟩, h1, h2⟩ := anyS h
  obtain ⟨h2, h8⟩ := and2 h2
  obtain ⟨hk2, h2⟩ := and2 h2
  have hk2 := of_decide_eq_true hk2
  obtain ⟨e1, gl, hm, d1, d3⟩ := biC_ok g h2
  obtain ⟨p, q, rfl⟩ := vCall_eq h1
  refine ⟨?_, rfl⟩
  dsimp only at h8 e1 gl hm
  subst e1
  split at h8
  · rename_i y
    obtain ⟨hr, oy⟩ := rg_pe g h8 ha hb
    refine PEi (pe_tupRg (g.calm hk2) gl hm hr (star_ok oy _ _)) fun σ H Q ⟨m, S, r, P, PX, bs, h, k⟩ => ?_
    simp only [ev] at h
    refine mkI bs h fun v S1 m1 H1 x1 q1 g1 b1 r1 => mkI b1 q1 fun u S2 m2 H2 x2 ⟨i, j, e1, e2, o1, o2, q2⟩ g2 b2 r2 => ?_
    subst e1 e2
    simp only [RV] at r1 r2
    unfold rgOk at o1 o2
    exact ⟨i, j, r1, r2, ⟨by omega, by omega, by omega, by omega, by omega⟩, fun p hp => ((k.grow g1).grow g2).tup b2.rep q2 (rgV_V _) hp⟩
  · cases h8
theorem sd_rgl (g : Good Z C W F N sc X) {a b : E} {x : Expr} (h : chk F N sc (.rgl a b) x = true) (ha : ∀ y, chk F N sc a y = true → PE X y (tI Z W (ev C a))) (hb : ∀ y, chk F N sc b y = true → PE X y (tI Z W (ev C b))) :
    PE X x (tI Z W (ev C (.rgl a b))) ∧ plainT x = true := by
  obtain ⟨⟨n, es⟩, h1, h2⟩ := anyS h
  obtain ⟨h2, h8⟩ := and2 h2
  obtain ⟨hk2, h2⟩ := and2 h2
  have hk2 := of_decide_eq_true hk2
  obtain ⟨e1, gl, hm, d1, d3⟩ := biC_ok g h2
  obtain ⟨p, q, rfl⟩ := vCall_eq h1
  refine ⟨?_, rfl⟩
  dsimp only at h8 e1 gl hm
  subst e1
  split at h8
  · rename_i y
    obtain ⟨hr, oy⟩ := rg_pe g h8 ha hb
    refine PEi (pe_listRg (g.calm hk2) gl hm hr (star_ok oy _ _)) fun σ H Q ⟨m, S, r, P, PX, bs, h, k⟩ => ?_
    simp only [ev] at h
    refine mkI bs h fun v S1 m1 H1 x1 q1 g1 b1 r1 => mkI b1 q1 fun u S2 m2 H2 x2 ⟨i, j, e1, e2, o1, o2, q2⟩ g2 b2 r2 => ?_
    subst e1 e2
    simp only [RV] at r1 r2
    unfold rgOk at o1 o2
    exact ⟨i, j, r1, r2, ⟨by omega, by omega, by omega, by omega, by omega⟩, fun p hp => ((k.grow g1).grow g2).alloc b2.rep q2 (rgV_V _) hp⟩
  · cases h8
/-! ### dicts -/
theorem noSl_ok {y : Expr} (h : okX y = true) : NoSl y := by
  intro o i
  cases y <;> first | rfl | exact absurd h Bool.false_ne_true
theorem Rep.rdD {m : List Addr} {S : Sto} {H : Hp} (R : Rep Z m S H) {n : Nat} {l : List (Ky × Val)} {a : Addr} (h : getD S n = some l) (ha : m[n]? = some a) : ∃ ks, H a = some (.dK ks) ∧ DR Z.K H m l ks := by
  unfold getD at h
  split at h
  · rename_i k e
    cases h
    exact R.ob n _ a e ha
  · cases h
theorem DR.val {K : PySem.W.Frag} {H : Hp} {m : List Addr} {k : Ky} {v : Val} : ∀ {l : List (Ky × Val)} {ks : List (L2.Key × V)}, DR K H m l ks → valD l k = some v → ∃ x, valV ks k = some x ∧ RV K H m v x
  | [], _, _, h => by cases h
  | p :: l, _, ⟨q, r, e, h1, h2, h3⟩, h => by
    subst e
    unfold valD at h
    by_cases c : p.1 = k
    · rw [if_pos c] at h
      cases h
      exact ⟨q.2, valV_pos (by rw [h1]; exact c), h2⟩
    · rw [if_neg c] at h
      obtain ⟨x, e1, e2⟩ := DR.val h3 h
      exact ⟨x, by rw [valV_neg (by rw [h1]; exact c)]; exact e1, e2⟩
theorem kV_of {K : PySem.W.Frag} {H : Hp} {m : List Addr} {y : Val} {x : V} {k : Ky} (h : keyV y = some k) (r : RV K H m y x) : x = kV k := by
  unfold keyV at h
  split at h
  · cases h
    simpa only [RV, kV] using r
  · cases h
    simpa only [RV, kV] using r
  · cases h
theorem DR.has {K : PySem.W.Frag} {H : Hp} {m : List Addr} {k : Ky} : ∀ {l : List (Ky × Val)} {ks : List (L2.Key × V)}, DR K H m l ks → hasD l k = ks.any fun p => decide (p.1 = k)
  | [], _, h => by
    have h : _ = [] := h
    subst h
    rfl
  | p :: l, _, ⟨q, r, e, h1, h2, h3⟩ => by
    subst e
    have ih := DR.has (k := k) h3
    unfold hasD at ih ⊢
    rw [List.any_cons, List.any_cons, ih, h1]
theorem DR.app {K : PySem.W.Frag} {H : Hp} {m : List Addr} {p : Ky × Val} {q : L2.Key × V} (e : q.1 = p.1) (hr : RV K H m p.2 q.2) : ∀ {l : List (Ky × Val)} {ks : List (L2.Key × V)}, DR K H m l ks → DR K H m (l ++ [p]) (ks ++ [q])
  | [], _, h => by
    have h : _ = [] := h
    subst h
    exact ⟨q, [], rfl, e, hr, rfl⟩
  | _ :: _, _, ⟨q1, r, e1, h1, h2, h3⟩ => by
    subst e1
    exact ⟨q1, r ++ [q], rfl, h1, h2, DR.app e hr h3⟩
theorem DR.mapK {K : PySem.W.Frag} {H : Hp} {m : List Addr} {k : Ky} {v : Val} {x : V} (hr : RV K H m v x) : ∀ {l : List (Ky × Val)} {ks : List (L2.Key × V)}, DR K H m l ks → DR K H m (l.map fun p => if p.1 = k then (p.1, v) else p) (ks.map fun p => if p.1 = k then (p.1, x) else p)
  | [], _, h => by
    have h : _ = [] := h
    subst h
    exact rfl
  | p :: l, _, ⟨q, r, e, h1, h2, h3⟩ => by
    subst e
    refine ⟨if q.1 = k then (q.1, x) else q, _, rfl, ?_, ?_, DR.mapK hr h3⟩
    · dsimp only
      rw [h1]
      split <;> first | rfl | exact h1
    · dsimp only
      rw [h1]
      split
      · exact hr
      · exact h2
theorem DR.put {K : PySem.W.Frag} {H : Hp} {m : List Addr} {k : Ky} {v : Val} {x : V} (hr : RV K H m v x) {l : List (Ky × Val)} {ks : List (L2.Key × V)} (h : DR K H m l ks) : DR K H m (putD l k v) (putK ks k x) := by
  unfold putD putK
  rw [h.has]
  split
  · exact h.mapK hr
  · exact h.app (p := (k, v)) (q := (k, x)) rfl hr
theorem DR.merge {K : PySem.W.Frag} {H : Hp} {m : List Addr} : ∀ {l acc : List (Ky × Val)} {ks ka : List (L2.Key × V)}, DR K H m acc ka → DR K H m l ks → DR K H m (mergeD acc l) (mergeK ka ks)
  | [], _, _, _, ha, h => by
    have h : _ = [] := h
    subst h
    exact ha
  | p :: l, acc, _, ka, ha, ⟨q, r, e, h1, h2, h3⟩ => by
    subst e
    have h4 : DR K H m (putD acc p.1 p.2) (putK ka q.1 q.2) := by
      rw [h1]
      exact ha.put h2
    show DR K H m (mergeD (putD acc p.1 p.2) l) (mergeK (putK ka q.1 q.2) r)
    exact DR.merge h4 h3
theorem pairs_V {K : PySem.W.Frag} {H : Hp} {m : List Addr} : ∀ {l : List Val} {xs : List V} {ps : List (Ky × Val)}, pairsK l = some ps → RVs K H m l xs → ∃ (as : List Addr) (ks : List (L2.Key × V)), xs = as.map V.ref ∧ Paired (fun p kv => SqT K H p [kV kv.1, kv.2]) as ks ∧ DR K H m ps ks
  | [], xs, ps, h, r => by
    cases h
    simp only [RVs] at r
    subst r
    exact ⟨[], [], rfl, .nil, rfl⟩
  | p :: l, xs, ps, h, r => by
    unfold pairsK at h
    split at h
    · rename_i q ps' e1 e2
      cases h
      simp only [RVs] at r
      obtain ⟨x, xs', rfl, r1, r2⟩ := r
      obtain ⟨as, ks, rfl, h1, h2⟩ := pairs_V e2 r2
      unfold pairK at e1
      split at e1
      · rename_i k v
        obtain ⟨kk, ek, rfl⟩ := Option.map_eq_some_iff.mp e1
        simp only [RV] at r1
        obtain ⟨a, ys, rfl, hs, hy⟩ := r1
        simp only [RVs] at hy
        obtain ⟨y1, t1, rfl, q1, y2, t2, rfl, q2, rfl⟩ := hy
        obtain rfl := kV_of ek q1
        exact ⟨a :: as, (kk, y2) :: ks, rfl, .cons hs h1, (kk, y2), ks, rfl, rfl, q2, h2⟩
      · cases e1
    · cases h
theorem sd_dfr (g : Good Z C W F N sc X) {e : E} {x : Expr} (h : chk F N sc (.dfr e) x = true) (hv : ∀ y, chk F N sc e y = true → PE X y (tI Z W (ev C e))) : PE X x (tI Z W (ev C (.dfr e))) ∧ plainT x = true := by
  obtain ⟨⟨n, es⟩, h1, h2⟩ := anyS h
  obtain ⟨h2, h8⟩ := and2 h2
  obtain ⟨hk2, h2⟩ := and2 h2
  have hk2 := of_decide_eq_true hk2
  obtain ⟨e1, gl, hm, d1, d3⟩ := biC_ok g h2
  obtain ⟨p, q, rfl⟩ := vCall_eq h1
  refine ⟨?_, rfl⟩
  dsimp only at h8 e1 gl hm
  subst e1
  split at h8
  · have bd : bootBuiltins (Str.ofString "dict") = some (.type "dict") := by decide +kernel
    have s1 := fun r => star_ok (chk_ok h8) r X.env
    refine PEi (pe_callTy (T := "dict") (p := p) (pos := q) (call_dictP (g.calm hk2)) gl hm bd (pa_cons (hv _ h8) pa_nil (s1 _)) d3 d1 (s1 _) rfl) fun σ H Q ⟨m, S, r, P, PX, bs, h, k⟩ => ?_
    simp only [ev] at h
    refine mkI bs h fun v S1 m1 H1 x1 ⟨j, l, ps, e, e0, ei, hq⟩ g1 b1 r1 => ?_
    subst e
    simp only [RV] at r1
    obtain ⟨a, ha, rfl⟩ := r1
    obtain ⟨xs, hs, rs⟩ := b1.rep.rd e0 ha
    obtain ⟨as, ks, rfl, h3, h4⟩ := pairs_V ei rs
    refine ⟨a, as, ks, rfl, by rw [g.hK]; exact hs, by rw [g.hK]; exact h3, fun pp hp => ?_⟩
    exact (k.grow g1).allocD b1.rep hq (DR.merge (acc := []) (ka := []) rfl h4) hp
  · cases h8
theorem sd_dix (g : Good Z C W F N sc X) {a i : E} {x : Expr} (h : chk F N sc (.dix a i) x = true) (ha : ∀ y, chk F N sc a y = true → PE X y (tI Z W (ev C a))) (hi : ∀ y, chk F N sc i y = true → PE X y (tI Z W (ev C i))) : PE X x (tI Z W (ev C (.dix a i))) ∧ plainT x = true := by
  obtain ⟨⟨y, z⟩, h1, h2⟩ := anyS h
  obtain ⟨h2, h3⟩ := and2 h2
  obtain ⟨h4, h2⟩ := and2 h2
  obtain ⟨p, rfl⟩ := vSub_eq h1
  refine ⟨PEi (pe_dget (by have := g.hu; omega) (ha _ h2) (hi _ h3) (noSl_ok h4)) fun σ H Q ⟨m, S, r, P, PX, bs, h, k⟩ => ?_, rfl⟩
  simp only [ev] at h
  refine mkI bs h fun v S1 m1 H1 x1 q1 g1 b1 r1 => mkI b1 q1 fun u S2 m2 H2 x2 ⟨n, l, kk, w, e1, e2, e3, e4, q⟩ g2 b2 r2 => ?_
  subst e1
  have r1' := RV.grow b1.rep g2 _ _ r1
  simp only [RV] at r1'
  obtain ⟨aa, hm, rfl⟩ := r1'
  obtain ⟨ks, hd, hr⟩ := b2.rep.rdD e2 hm
  obtain ⟨xx, e5, r5⟩ := hr.val e4
  obtain rfl := kV_of e3 r2
  exact ⟨aa, xx, rfl, .inl ⟨ks, kk, .inl hd, rfl, e5.symm⟩, (k.grow (g1.trans g2)).same b2.rep q r5⟩
theorem seqOf_V {Z : Zt} {m : List Addr} {S : Sto} {H : Hp} (R : Rep Z m S H) {v : Val} {l : List Val} {x : V} (h : seqOf S v = some l) (r : RV Z.K H m v x) : ∃ b a xs, x = .ref a ∧ RE.Sq b Z.K H a xs ∧ RVs Z.K H m l xs := by
  cases v with
  | tup k =>
    cases h
    simp only [RV] at r
    obtain ⟨a, xs, rfl, hs, rs⟩ := r
    exact ⟨true, a, xs, rfl, hs, rs⟩
  | obj n =>
    simp only [RV] at r
    obtain ⟨a, hm, rfl⟩ := r
    obtain ⟨xs, hs, rs⟩ := R.rd h hm
    exact ⟨false, a, xs, rfl, hs, rs⟩
  | _ => cases h
/-- the pairs of a zip, tracked -/
theorem trk_V {Z : Zt} {m : List Addr} {S : Sto} {H : Hp} (R : Rep Z m S H) : ∀ (as : List Addr) (xs ys : List V) (l k : List Val), as.length = min xs.length ys.length → as.Nodup → (∀ x ∈ as, H x = none) → RVs Z.K H m l xs → RVs Z.K H m k ys →
    Grow m H m (RE.trkT H (as.zip (RE.pairsV xs ys))) ∧ Rep Z m S (RE.trkT H (as.zip (RE.pairsV xs ys))) ∧ RVs Z.K (RE.trkT H (as.zip (RE.pairsV xs ys))) m (zipV l k) (as.map V.ref)
  | [], xs, ys, l, k, hl, _, _, r1, r2 => by
    have z : zipV l k = [] := by
      have h1 := r1.len
      have h2 := r2.len
      cases l with
      | nil => simp [zipV]
      | cons v l =>
        cases k with
        | nil => simp [zipV]
        | cons w k =>
          simp at hl h1 h2
          omega
    rw [z]
    exact ⟨Grow.refl, R, RVs.nil⟩
  | x :: as, xs, ys, l, k, hl, hnd, hfr, r1, r2 => by
    have h1 := r1.len
    have h2 := r2.len
    cases xs with
    | nil => simp at hl
    | cons x1 xs =>
      cases ys with
      | nil => simp at hl
      | cons y1 ys =>
        cases l with
        | nil => simp at h1
        | cons v l =>
          cases k with
          | nil => simp at h2
          | cons w k =>
            simp only [RVs] at r1 r2
            obtain ⟨_, _, e1, p1, r1⟩ := r1
            obtain ⟨_, _, e2, p2, r2⟩ := r2
            cases e1
            cases e2
            obtain ⟨n1, n2⟩ := List.nodup_cons.mp hnd
            obtain ⟨g3, R3, r3⟩ := trk_V R as xs ys l k (by simp at hl; omega) n2 (fun x hx => hfr x (List.mem_cons_of_mem _ hx)) r1 r2
            have emap : ((as.zip (RE.pairsV xs ys)).map (·.1)) = as := List.map_fst_zip (by rw [RE.pairsV_len]; simp at hl; omega)
            have hx : RE.trkT H (as.zip (RE.pairsV xs ys)) x = none := by
              rw [RE.trkT_out (by rw [emap]; exact n1)]
              exact hfr x List.mem_cons_self
            show Grow m H m (upd (RE.trkT H (as.zip (RE.pairsV xs ys))) x (.tup [x1, y1])) ∧ Rep Z m S (upd (RE.trkT H (as.zip (RE.pairsV xs ys))) x (.tup [x1, y1])) ∧ RVs Z.K (upd (RE.trkT H (as.zip (RE.pairsV xs ys))) x (.tup [x1, y1])) m (.tup [v, w] :: zipV l k) (.ref x :: as.map V.ref)
            have g4 : Grow m (RE.trkT H (as.zip (RE.pairsV xs ys))) m (upd (RE.trkT H (as.zip (RE.pairsV xs ys))) x (.tup [x1, y1])) := Grow.new hx
            refine ⟨g3.trans g4, R3.new hx, RVs.cons ?_ (RVs.grow R3 g4 _ _ r3)⟩
            simp only [RV]
            exact ⟨x, [x1, y1], rfl, .inl (.inl upd_same), RVs.cons (RV.grow R (g3.trans g4) _ _ p1) (RVs.cons (RV.grow R (g3.trans g4) _ _ p2) RVs.nil)⟩
theorem sd_zpl (g : Good Z C W F N sc X) {a b : E} {x : Expr} (h : chk F N sc (.zpl a b) x = true) (ha : ∀ y, chk F N sc a y = true → PE X y (tI Z W (ev C a))) (hb : ∀ y, chk F N sc b y = true → PE X y (tI Z W (ev C b))) :
    PE X x (tI Z W (ev C (.zpl a b))) ∧ plainT x = true := by
  obtain ⟨⟨n, es⟩, h1, h2⟩ := anyS h
  obtain ⟨h2, h8⟩ := and2 h2
  obtain ⟨hk2, h2⟩ := and2 h2
  have hk2 := of_decide_eq_true hk2
  obtain ⟨e1, gl, hm, d1, d3⟩ := biC_ok g h2
  obtain ⟨p, q, rfl⟩ := vCall_eq h1
  refine ⟨?_, rfl⟩
  dsimp only at h8 e1 gl hm
  subst e1
  split at h8
  · rename_i y _ _
    obtain ⟨⟨n2, es2⟩, h3, h4⟩ := anyS h8
    obtain ⟨h4, h9⟩ := and2 h4
    obtain ⟨e2, gl2, hm2, d4, d5⟩ := biC_ok g h4
    obtain ⟨p2, q2, rfl⟩ := vCall_eq h3
    dsimp only at h9 e2 gl2 hm2
    subst e2
    split at h9
    · obtain ⟨h10, h11⟩ := and2 h9
      have s1 := fun r => star_ok (chk_ok h10) r X.env
      have s2 := fun r => star_ok (chk_ok h11) r X.env
      refine PEi (RE.pe_listZip (p := p) (pos := q) (p2 := p2) (pos2 := q2) (g.calm hk2) gl hm gl2 hm2 (pa_cons (ha _ h10) (pa_cons (hb _ h11) pa_nil (s2 _)) (s1 _)) (s1 _) (stars_no _ _ fun x hx => by simp at hx; rw [hx]; exact chk_ok h11)) fun σ H Q ⟨m, S, r, P, PX, bs, h, k⟩ => ?_
      simp only [ev] at h
      refine mkI bs h fun v S1 m1 H1 x1 q1 g1 b1 r1 => mkI b1 q1 fun u S2 m2 H2 x2 ⟨l, l2, e1, e2, hq⟩ g2 b2 r2 => ?_
      have r1' := RV.grow b1.rep g2 _ _ r1
      obtain ⟨bb, aa, xs, rfl, s1', v1⟩ := seqOf_V b2.rep e1 r1'
      obtain ⟨cc, dd, ys, rfl, s2', v2⟩ := seqOf_V b2.rep e2 r2
      refine ⟨aa, dd, bb, cc, xs, ys, rfl, by rw [g.hK]; exact s1', by rw [g.hK]; exact s2', fun as pp hl hnd hfr hpn hp => ?_⟩
      obtain ⟨g3, R3, rv3⟩ := trk_V b2.rep as xs ys l l2 hl hnd hfr v1 v2
      have emap : ((as.zip (RE.pairsV xs ys)).map (·.1)) = as := List.map_fst_zip (by rw [RE.pairsV_len, hl]; exact Nat.le_refl _)
      exact (((k.grow g1).grow g2).grow g3).alloc R3 hq rv3 (by rw [RE.trkT_out (by rw [emap]; exact hpn)]; exact hp)
    · cases h9
  · cases h8
theorem sd_ntin (g : Good Z C W F N sc X) {a b : E} {x y : Expr} {pos : Pos} (ok : okX y = true) (ha : PE X x (tI Z W (ev C a))) (hb : PE X y (tI Z W (ev C b))) :
    PE X (.Compare x [.NotIn] [y] pos) (tI Z W (ev C (.ntin a b))) ∧ PT X (.Compare x [.NotIn] [y] pos) (tT Z W (ev C (.ntin a b))) := by
  refine ⟨PEi (pe_cmpR (op_notInT g.hu) ha hb (mark_ok ok _)) fun σ H Q ⟨m, S, r, P, PX, bs, h, k⟩ => ?_, PTi (pt_cmpR (op_notInT g.hu) ha hb (mark_ok ok _)) fun σ H Q ⟨m, S, r, P, PX, bs, h, k⟩ => ?_⟩
  · simp only [ev] at h
    refine mkI bs h fun v S1 m1 H1 x1 q1 g1 b1 r1 => mkI b1 q1 fun u S2 m2 H2 x2 ⟨d, ds, e1, e2, hq⟩ g2 b2 r2 => ?_
    have r1' := RV.grow b1.rep g2 _ _ r1
    obtain ⟨t1, t2⟩ := toD_shaped b2.rep e1 r1'
    obtain ⟨t3, t4⟩ := toD_shaped b2.rep e2 r2
    exact ⟨d, ds, by rw [g.hK]; exact t1, by rw [g.hK]; exact t3, (toD_ok b2.rep _ _ _ _ e1 r1').2.2, t2, t4, ((k.grow g1).grow g2).bl b2.rep hq⟩
  · simp only [ev] at h
    refine mkI bs h fun v S1 m1 H1 x1 q1 g1 b1 r1 => mkI b1 q1 fun u S2 m2 H2 x2 ⟨d, ds, e1, e2, hq⟩ g2 b2 r2 => ?_
    have r1' := RV.grow b1.rep g2 _ _ r1
    obtain ⟨t1, t2⟩ := toD_shaped b2.rep e1 r1'
    obtain ⟨t3, t4⟩ := toD_shaped b2.rep e2 r2
    obtain ⟨kk, hk1, hk2⟩ := k _ _ _ _ hq (g1.trans g2) b2.rep
    cases truV_bl hk1
    exact ⟨d, ds, by rw [g.hK]; exact t1, by rw [g.hK]; exact t3, (toD_ok b2.rep _ _ _ _ e1 r1').2.2, t2, t4, _, rfl, hk2⟩
/-! ### dicts whose keys are tuples of whole numbers -/
theorem Grow.adoptU {m m2 : List Addr} {H H2 : Hp} {p : Addr} {o : HO} (g : Grow m H m2 H2) (hp : H p = none) : Grow m H (m2 ++ [p]) (upd H2 p o) := by
  obtain ⟨n, e, f⟩ := g.ext
  refine ⟨⟨n ++ [p], by rw [e, List.append_assoc], fun a ha u hu => ?_⟩, fun a u h hm ht => ?_, fun a u h nt => ?_⟩
  · rcases List.mem_append.mp ha with z | z
    · exact f a z u hu
    · rw [List.mem_singleton.mp z, hp] at hu
      cases hu
  · rw [upd_ne (ne_of_none h hp)]
    exact g.keep a u h hm ht
  · rw [upd_ne (ne_of_none h hp)]
    exact g.dom a u h nt
theorem Rep.adoptT {Z : Zt} {m : List Addr} {S : Sto} {H : Hp} (R : Rep Z m S H) {p : Addr} (hm : p ∉ m) {ob0 ob : PySem.Obj} {es : Array DictEntry} {ep : Nat} (hp : H p = some (TD.pin p ob0)) (hd : ob0.data = .dict es ep) {l : List (List Int × Val)} {xs : List TD.Row} (T : TD.TDict Z.K (upd H p (TD.pin p ob)) ob p xs) (r : TR Z.K H m l xs) : Rep Z (m ++ [p]) (S ++ [.dtu l ob]) (upd H p (TD.pin p ob)) := by
  have sk := TD.sq_upd (K := Z.K) (ob' := ob) hp
  have rk : ∀ v x, RV Z.K H m v x → RV Z.K (upd H p (TD.pin p ob)) (m ++ [p]) v x := by
    have both : (∀ (v : Val) (x : V), RV Z.K H m v x → RV Z.K (upd H p (TD.pin p ob)) (m ++ [p]) v x) := fun v => by
      refine Val.rec (motive_1 := fun v => ∀ x, RV Z.K H m v x → RV Z.K (upd H p (TD.pin p ob)) (m ++ [p]) v x) (motive_2 := fun l => ∀ xs, RVs Z.K H m l xs → RVs Z.K (upd H p (TD.pin p ob)) (m ++ [p]) l xs) ?_ ?_ ?_ ?_ ?_ ?_ ?_ ?_ ?_ v
      · intro x h; exact h
      · intro b x h; exact h
      · intro b x h; exact h
      · intro b x h; exact h
      · intro l ih x h
        simp only [RV] at h ⊢
        obtain ⟨a, xs, e, hs, hr⟩ := h
        exact ⟨a, xs, e, sk _ _ hs, ih xs hr⟩
      · intro n x h
        simp only [RV] at h ⊢
        obtain ⟨a, e, ex⟩ := h
        exact ⟨a, by rw [List.getElem?_append_left (List.getElem?_eq_some_iff.mp e).1]; exact e, ex⟩
      · intro a c x h; exact h
      · intro xs h; exact h
      · intro v l i1 i2 xs h
        simp only [RVs] at h ⊢
        obtain ⟨x, r, e, h1, h2⟩ := h
        exact ⟨x, r, e, i1 x h1, i2 r h2⟩
    exact both
  have rks : ∀ (l : List Val) (xs : List V), RVs Z.K H m l xs → RVs Z.K (upd H p (TD.pin p ob)) (m ++ [p]) l xs := by
    intro l
    induction l with
    | nil => intro xs h; exact h
    | cons v l ih =>
      intro xs h
      simp only [RVs] at h ⊢
      obtain ⟨x, r, e, h1, h2⟩ := h
      exact ⟨x, r, e, rk v x h1, ih r h2⟩
  refine ⟨by rw [List.length_append, List.length_append, R.len]; rfl, ?_, fun n ob' a e ea => ?_, tabs_keep R.tabs fun b u h _ nl => by rw [upd_ne (fun z => by rw [z, hp] at h; exact nl _ _ _ _ hd (Option.some.inj h).symm)]; exact h⟩
  · rw [List.nodup_append]
    refine ⟨R.nd, by simp, fun a ha b hb e => ?_⟩
    simp at hb
    rw [e, hb] at ha
    exact hm ha
  · by_cases hn : n < S.length
    · rw [List.getElem?_append_left hn] at e
      rw [List.getElem?_append_left (by rw [R.len]; exact hn)] at ea
      have ne : a ≠ p := fun z => hm (z ▸ List.mem_of_getElem? ea)
      have q := R.ob n ob' a e ea
      cases ob' with
      | lst l =>
        obtain ⟨xs, h1, h2⟩ := q
        exact ⟨xs, by rw [upd_ne ne]; exact h1, rks l xs h2⟩
      | frz l =>
        obtain ⟨u, xs, h1, h2⟩ := q
        exact ⟨u, xs, by rw [upd_ne ne]; exact h1, rks l xs h2⟩
      | dic l =>
        obtain ⟨ks, h1, h2⟩ := q
        exact ⟨ks, by rw [upd_ne ne]; exact h1, h2.to rk⟩
      | dtu l ob =>
        obtain ⟨xs, h1, h2, h3⟩ := q
        exact ⟨xs, by rw [upd_ne ne]; exact h1, h2.keep sk, h3.to rk⟩
      | dki l ob =>
        obtain ⟨ks, h1, h2, h3⟩ := q
        exact ⟨ks, by rw [upd_ne ne]; exact h1, h2, h3.to rk⟩
      | ins c l => exact q
    · have hn2 : n = S.length := by
        have := (List.getElem?_eq_some_iff.mp e).1
        rw [List.length_append] at this
        simp at this
        omega
      subst hn2
      rw [List.getElem?_append_right (Nat.le_refl _), Nat.sub_self] at e
      rw [List.getElem?_append_right (by rw [R.len]; exact Nat.le_refl _), R.len, Nat.sub_self] at ea
      simp at e ea
      subst e ea
      exact ⟨xs, upd_same, T, r.to rk⟩
theorem sd_dtn (g : Good Z C W F N sc X) {pos : Pos} : PE X (.Dict [] [] pos) (tI Z W (ev C .dtn)) :=
  PEi TD.pe_tnew fun σ H Q ⟨m, S, r, P, PX, b, h, k⟩ => by
    simp only [ev] at h
    exact fun p ob hp T => k.allocT b.rep (h ob) (by rw [← g.hK]; exact T _) (show TR Z.K H m [] [] from rfl) hp
theorem sd_dt1 (g : Good Z C W F N sc X) {kk v : E} {x y : Expr} {pos : Pos} (hk : PE X x (tI Z W (ev C kk))) (hv : PE X y (tI Z W (ev C v))) : PE X (.Dict [some x] [y] pos) (tI Z W (ev C (.dt1 kk v))) := by
  refine PEi (TD.pe_disp1 (by have := g.hu; omega) hk hv) fun σ H Q ⟨m, S, r, P, PX, bs, h, k⟩ => ?_
  simp only [ev] at h
  intro p ob hp T0
  have g0 : Grow m H m (upd H p (TD.pin p ob)) := Grow.new hp
  have hm0 := bs.rep.not_mem hp
  refine mkI (bs.grow g0 (bs.rep.new hp)) h fun w S1 m1 H1 x1 q1 g1 b1 r1 => mkI b1 q1 fun u S2 m2 H2 x2 ⟨ks, e1, hq⟩ g2 b2 r2 => ?_
  have hp2 : H2 p = some (TD.pin p ob) := (g1.trans g2).keep p _ upd_same hm0 (fun ps z => by cases z)
  obtain ⟨b, rfl, hs⟩ := keyT_V e1 (RV.grow b1.rep g2 _ _ r1)
  refine ⟨b, ks, hp2, rfl, by rw [g.hK]; exact hs, fun ob' vv rv T => ?_⟩
  have hm2 : p ∉ m2 := by
    obtain ⟨n, e, f⟩ := (g1.trans g2).ext
    rw [e]
    intro hd
    rcases List.mem_append.mp hd with z | z
    · exact hm0 z
    · obtain ⟨ps, e⟩ := f p z _ upd_same
      cases e
  obtain ⟨es, ep, hd, _⟩ := (T0 H).dat
  have T' : TD.TDict Z.K (upd H2 p (TD.pin p ob')) ob' p [(ks, b, vv)] := by rw [← g.hK]; exact T
  refine k _ _ _ _ _ (hq ob') (Grow.adoptU (g0.trans (g1.trans g2)) hp) (b2.rep.adoptT hm2 hp2 hd T' (l := [(ks, u)]) ⟨_, _, rfl, rfl, ⟨x2, r2, rv⟩, rfl⟩) ?_
  simp only [RV]
  refine ⟨p, ?_, rfl⟩
  rw [← b2.rep.len, List.getElem?_append_right (Nat.le_refl _), Nat.sub_self]
  rfl
theorem pairsT_V {K : PySem.W.Frag} {H : Hp} {m : List Addr} : ∀ {l : List Val} {xs : List V} {ps : List (List Int × Val)}, pairsT l = some ps → RVs K H m l xs → ∃ (as : List Addr) (rows : List (List Int × Addr × V)), xs = as.map V.ref ∧
    Paired (fun p (r : List Int × Addr × V) => SqT K H p [.ref r.2.1, r.2.2] ∧ SqT K H r.2.1 (r.1.map V.int)) as rows ∧ ∀ rv : List TD.Row, Paired (fun (r : List Int × Addr × V) (q : TD.Row) => r.1 = q.1 ∧ r.2.1 = q.2.1 ∧ RelV r.2.2 q.2.2) rows rv → TR K H m ps rv
  | [], xs, ps, h, r => by
    cases h
    simp only [RVs] at r
    subst r
    exact ⟨[], [], rfl, .nil, fun rv h => by cases h; exact rfl⟩
  | p :: l, xs, ps, h, r => by
    unfold pairsT at h
    split at h
    · rename_i q ps' e1 e2
      cases h
      simp only [RVs] at r
      obtain ⟨x, xs', rfl, r1, r2⟩ := r
      obtain ⟨as, rows, rfl, h1, h2⟩ := pairsT_V e2 r2
      unfold pairT at e1
      split at e1
      · rename_i k v
        obtain ⟨kk, ek, rfl⟩ := Option.map_eq_some_iff.mp e1
        simp only [RV] at r1
        obtain ⟨a, ys, rfl, hs, hy⟩ := r1
        simp only [RVs] at hy
        obtain ⟨y1, t1, rfl, q1, y2, t2, rfl, q2, rfl⟩ := hy
        obtain ⟨b, rfl, hb⟩ := keyT_V ek q1
        refine ⟨a :: as, (kk, b, y2) :: rows, rfl, .cons ⟨hs, hb⟩ h1, fun rv hrv => ?_⟩
        cases hrv with
        | cons c1 c2 => exact ⟨_, _, rfl, c1.1.symm, ⟨y2, q2, c1.2.2⟩, h2 _ c2⟩
      · cases e1
    · cases h
theorem sd_dtf (g : Good Z C W F N sc X) {e : E} {x : Expr} (h : chk F N sc (.dtf e) x = true) (hv : ∀ y, chk F N sc e y = true → PE X y (tI Z W (ev C e))) : PE X x (tI Z W (ev C (.dtf e))) ∧ plainT x = true := by
  obtain ⟨⟨n, es⟩, h1, h2⟩ := anyS h
  obtain ⟨h2, h8⟩ := and2 h2
  obtain ⟨hk2, h2⟩ := and2 h2
  have hk2 := of_decide_eq_true hk2
  obtain ⟨e1, gl, hm, d1, d3⟩ := biC_ok g h2
  obtain ⟨p, q, rfl⟩ := vCall_eq h1
  refine ⟨?_, rfl⟩
  dsimp only at h8 e1 gl hm
  subst e1
  split at h8
  · have bd : bootBuiltins (Str.ofString "dict") = some (.type "dict") := by decide +kernel
    have s1 := fun r => star_ok (chk_ok h8) r X.env
    refine PEi (pe_callTy (T := "dict") (p := p) (pos := q) (TD.call_tdict (g.calm hk2) (by have := g.hu; omega)) gl hm bd (pa_cons (hv _ h8) pa_nil (s1 _)) d3 d1 (s1 _) rfl) fun σ H Q ⟨m, S, r, P, PX, bs, h, k⟩ => ?_
    simp only [ev] at h
    refine mkI bs h fun v S1 m1 H1 x1 ⟨j, l, ps, e, e0, ei, hq⟩ g1 b1 r1 => ?_
    subst e
    simp only [RV] at r1
    obtain ⟨a, ha, rfl⟩ := r1
    obtain ⟨xs, hs, rs⟩ := b1.rep.rd e0 ha
    obtain ⟨as, rows, rfl, h3, h4⟩ := pairsT_V ei rs
    refine ⟨a, as, rows, rfl, by rw [g.hK]; exact hs, by rw [g.hK]; exact h3, fun pp ob rv hp hrv T => ?_⟩
    exact (k.grow g1).allocT b1.rep (hq ob) (by rw [← g.hK]; exact T) (TR.merge (acc := []) (xa := []) rfl (h4 rv hrv)) hp
  · cases h8
theorem sd_dtx (g : Good Z C W F N sc X) {a i : E} {x : Expr} (h : chk F N sc (.dtx a i) x = true) (ha : ∀ y, chk F N sc a y = true → PE X y (tI Z W (ev C a))) (hi : ∀ y, chk F N sc i y = true → PE X y (tI Z W (ev C i))) : PE X x (tI Z W (ev C (.dtx a i))) ∧ plainT x = true := by
  obtain ⟨⟨y, z⟩, h1, h2⟩ := anyS h
  obtain ⟨h2, h3⟩ := and2 h2
  obtain ⟨h4, h2⟩ := and2 h2
  obtain ⟨p, rfl⟩ := vSub_eq h1
  refine ⟨PEi (TD.pe_tget (by have := g.hu; omega) (ha _ h2) (hi _ h3) (noSl_ok h4)) fun σ H Q ⟨m, S, r, P, PX, bs, h, k⟩ => ?_, rfl⟩
  simp only [ev] at h
  refine mkI bs h fun v S1 m1 H1 x1 q1 g1 b1 r1 => mkI b1 q1 fun u S2 m2 H2 x2 ⟨n, l, kk, w, e1, e2, e3, e4, q⟩ g2 b2 r2 => ?_
  subst e1
  have r1' := RV.grow b1.rep g2 _ _ r1
  simp only [RV] at r1'
  obtain ⟨aa, hm, rfl⟩ := r1'
  obtain ⟨ob, xs, hd, T, hr⟩ := b2.rep.rdT e2 hm
  obtain ⟨b, rfl, hs⟩ := keyT_V e3 r2
  obtain ⟨i1, i2⟩ := TR.at (k := kk) hr
  cases e5 : atKey xs kk with
  | none => rw [i2 e5] at e4; cases e4
  | some pp =>
    obtain ⟨v', x', f1, f2, f3⟩ := i1 pp e5
    rw [e4] at f1
    cases f1
    exact ⟨aa, ob, xs, b, kk, pp, x', rfl, hd, by rw [g.hK]; exact T, rfl, by rw [g.hK]; exact hs, e5, f3, (k.grow (g1.trans g2)).same b2.rep q f2⟩
theorem sd_dtg (g : Good Z C W F N sc X) {a kk z : E} {x : Expr} (h : chk F N sc (.dtg a kk z) x = true) (ha : ∀ y, chk F N sc a y = true → PE X y (tI Z W (ev C a))) (hk : ∀ y, chk F N sc kk y = true → PE X y (tI Z W (ev C kk))) (hz : ∀ y, chk F N sc z y = true → PE X y (tI Z W (ev C z))) :
    PE X x (tI Z W (ev C (.dtg a kk z))) ∧ plainT x = true := by
  obtain ⟨⟨y, n, es, ln⟩, h1, h2⟩ := anyS h
  obtain ⟨h2, h9⟩ := and2 h2
  obtain ⟨h2, h8⟩ := and2 h2
  obtain ⟨h2, h6⟩ := and2 h2
  obtain ⟨h4, h5⟩ := and2 h2
  obtain ⟨p, q, rfl, hln⟩ := vMet_eq h1
  dsimp only at *
  have e3 : n = Str.ofString "get" := of_decide_eq_true h4
  have hl : (p.endLine == q.line) = true := by rw [← hln]; exact h5
  have base := attr_ok (n := n) (env := X.env) (chk_ok h8) (by simpa using h6)
  subst e3
  refine ⟨?_, rfl⟩
  obtain ⟨e1, e2, rfl⟩ : ∃ e1 e2, es = [e1, e2] := by
    split at h9
    · exact ⟨_, _, rfl⟩
    · cases h9
  · obtain ⟨h10, h11⟩ := and2 h9
    have m2 : M2 X y "get" p e1 e2 q := by
      refine ⟨base, stars_few X.env q (fun x hx => ?_) (by simp), hl, ?_⟩
      · simp only [List.mem_cons, List.not_mem_nil, or_false] at hx
        rcases hx with rfl | rfl
        · exact chk_ok h10
        · exact chk_ok h11
      · rw [star_ok (chk_ok h10), star_ok (chk_ok h11)]
        rfl
    refine PEi (TD.pe_tget2 (by have := g.hu; omega) (ha _ h8) (hk _ h10) (hz _ h11) m2) fun σ H Q ⟨m, S, r, P, PX, bs, h, k⟩ => ?_
    simp only [ev] at h
    refine mkI bs h fun v S1 m1 H1 x1 ⟨n, l0, e0, e1, q1⟩ g1 b1 r1 => ?_
    subst e0
    have r1' := r1
    simp only [RV] at r1
    obtain ⟨aa, hm, rfl⟩ := r1
    obtain ⟨ob, xs, hd, T, _⟩ := b1.rep.rdT e1 hm
    refine ⟨aa, rfl, ⟨ob, xs, hd, by rw [g.hK]; exact T⟩, ?_⟩
    refine mkI b1 q1 fun u S2 m2 H2 x2 q2 g2 b2 r2 => mkI b2 q2 fun w S3 m3 H3 x3 ⟨l, e2, q3⟩ g3 b3 r3 => ?_
    have r2' := RV.grow b2.rep g3 _ _ r2
    obtain ⟨ob3, xs3, hd3, T3, tr⟩ := b3.rep.rdT e2 ((g2.trans g3).get hm)
    have k3 := k.grow (g1.trans (g2.trans g3))
    refine ⟨ob3, xs3, hd3, by rw [g.hK]; exact T3, ?_⟩
    rcases q3 with ⟨rfl, q3⟩ | ⟨ks, e4, q3⟩
    · simp only [RV] at r2'
      exact .inl ⟨r2', k3.same b3.rep q3 r3⟩
    · obtain ⟨b, rfl, hs⟩ := keyT_V e4 r2'
      obtain ⟨i1, i2⟩ := TR.at (k := ks) tr
      refine .inr ⟨b, ks, rfl, by rw [g.hK]; exact hs, fun pp ep => ?_, fun ep => ?_⟩
      · obtain ⟨v', x', f1, f2, f3⟩ := i1 pp ep
        rw [f1] at q3
        exact ⟨x', f3, k3.same b3.rep q3 f2⟩
      · rw [i2 ep] at q3
        exact k3.same b3.rep q3 r3
theorem sd_dte (g : Good Z C W F N sc X) {a : E} {x : Expr} {p0 pos : Pos} (ha : PE X x (tI Z W (ev C a))) :
    PE X (.Compare x [.Eq] [.Dict [] [] p0] pos) (tI Z W (ev C (.dte a))) ∧ PT X (.Compare x [.Eq] [.Dict [] [] p0] pos) (tT Z W (ev C (.dte a))) := by
  have emp : ∀ {l : List (List Int × Val)} {xs : List TD.Row} {K : PySem.W.Frag} {H : Hp} {m : List Addr}, TR K H m l xs → xs.isEmpty = l.isEmpty := fun {l xs K H m} r => by
    have := r.len
    cases l <;> cases xs <;> first | rfl | simp at this
  refine ⟨PEi (pe_cmpR (TD.op_tempty g.hu) ha (TD.pe_tnew (pos := p0)) (mark_ok rfl _)) fun σ H Q ⟨m, S, r, P, PX, bs, h, k⟩ => ?_, PTi (pt_cmpR (TD.op_tempty g.hu) ha (TD.pe_tnew (pos := p0)) (mark_ok rfl _)) fun σ H Q ⟨m, S, r, P, PX, bs, h, k⟩ => ?_⟩
  · simp only [ev] at h
    refine mkI bs h fun v S1 m1 H1 x1 ⟨n, l, e1, h1, h2⟩ g1 b1 r1 => ?_
    subst e1
    simp only [RV] at r1
    obtain ⟨aa, hm, rfl⟩ := r1
    obtain ⟨ob, xs, hd, T, tr⟩ := b1.rep.rdT h1 hm
    intro p ob2 hp T2
    have gn : Grow m1 H1 m1 (upd H1 p (TD.pin p ob2)) := Grow.new hp
    refine ⟨aa, p, ob, ob2, xs, rfl, rfl, by rw [upd_ne (ne_of_none hd hp)]; exact hd, by rw [g.hK]; exact T.keep fun b ys => b1.rep.tup_keep gn, upd_same, T2 _, ?_⟩
    rw [emp tr]
    exact ((k.grow g1).grow gn).bl (b1.rep.new hp) h2
  · simp only [ev] at h
    refine mkI bs h fun v S1 m1 H1 x1 ⟨n, l, e1, h1, h2⟩ g1 b1 r1 => ?_
    subst e1
    simp only [RV] at r1
    obtain ⟨aa, hm, rfl⟩ := r1
    obtain ⟨ob, xs, hd, T, tr⟩ := b1.rep.rdT h1 hm
    intro p ob2 hp T2
    have gn : Grow m1 H1 m1 (upd H1 p (TD.pin p ob2)) := Grow.new hp
    obtain ⟨kk, hk1, hk2⟩ := k _ _ _ _ h2 (g1.trans gn) (b1.rep.new hp)
    cases truV_bl hk1
    refine ⟨aa, p, ob, ob2, xs, rfl, rfl, by rw [upd_ne (ne_of_none hd hp)]; exact hd, by rw [g.hK]; exact T.keep fun b ys => b1.rep.tup_keep gn, upd_same, T2 _, _, by rw [emp tr], hk2⟩
theorem sd_dnt (g : Good Z C W F N sc X) {a : E} {x : Expr} {p0 pos : Pos} (ha : PE X x (tI Z W (ev C a))) :
    PE X (.Compare x [.NotEq] [.Dict [] [] p0] pos) (tI Z W (ev C (.dnt a))) ∧ PT X (.Compare x [.NotEq] [.Dict [] [] p0] pos) (tT Z W (ev C (.dnt a))) := by
  have emp : ∀ {l : List (List Int × Val)} {xs : List TD.Row} {K : PySem.W.Frag} {H : Hp} {m : List Addr}, TR K H m l xs → xs.isEmpty = l.isEmpty := fun {l xs K H m} r => by
    have := r.len
    cases l <;> cases xs <;> first | rfl | simp at this
  refine ⟨PEi (pe_cmpR (TD.op_tfull g.hu) ha (TD.pe_tnew (pos := p0)) (mark_ok rfl _)) fun σ H Q ⟨m, S, r, P, PX, bs, h, k⟩ => ?_, PTi (pt_cmpR (TD.op_tfull g.hu) ha (TD.pe_tnew (pos := p0)) (mark_ok rfl _)) fun σ H Q ⟨m, S, r, P, PX, bs, h, k⟩ => ?_⟩
  · simp only [ev] at h
    refine mkI bs h fun v S1 m1 H1 x1 ⟨n, l, e1, h1, h2⟩ g1 b1 r1 => ?_
    subst e1
    simp only [RV] at r1
    obtain ⟨aa, hm, rfl⟩ := r1
    obtain ⟨ob, xs, hd, T, tr⟩ := b1.rep.rdT h1 hm
    intro p ob2 hp T2
    have gn : Grow m1 H1 m1 (upd H1 p (TD.pin p ob2)) := Grow.new hp
    refine ⟨aa, p, ob, ob2, xs, rfl, rfl, by rw [upd_ne (ne_of_none hd hp)]; exact hd, by rw [g.hK]; exact T.keep fun b ys => b1.rep.tup_keep gn, upd_same, T2 _, ?_⟩
    rw [emp tr]
    exact ((k.grow g1).grow gn).bl (b1.rep.new hp) h2
  · simp only [ev] at h
    refine mkI bs h fun v S1 m1 H1 x1 ⟨n, l, e1, h1, h2⟩ g1 b1 r1 => ?_
    subst e1
    simp only [RV] at r1
    obtain ⟨aa, hm, rfl⟩ := r1
    obtain ⟨ob, xs, hd, T, tr⟩ := b1.rep.rdT h1 hm
    intro p ob2 hp T2
    have gn : Grow m1 H1 m1 (upd H1 p (TD.pin p ob2)) := Grow.new hp
    obtain ⟨kk, hk1, hk2⟩ := k _ _ _ _ h2 (g1.trans gn) (b1.rep.new hp)
    cases truV_bl hk1
    refine ⟨aa, p, ob, ob2, xs, rfl, rfl, by rw [upd_ne (ne_of_none hd hp)]; exact hd, by rw [g.hK]; exact T.keep fun b ys => b1.rep.tup_keep gn, upd_same, T2 _, _, by rw [emp tr], hk2⟩
theorem sd_dti (g : Good Z C W F N sc X) {a b : E} {x y : Expr} {pos : Pos} (ok : okX y = true) (ha : PE X x (tI Z W (ev C a))) (hb : PE X y (tI Z W (ev C b))) :
    PE X (.Compare x [.In] [y] pos) (tI Z W (ev C (.dti a b))) ∧ PT X (.Compare x [.In] [y] pos) (tT Z W (ev C (.dti a b))) := by
  refine ⟨PEi (pe_cmpR (TD.op_tin g.hu) ha hb (mark_ok ok _)) fun σ H Q ⟨m, S, r, P, PX, bs, h, k⟩ => ?_, PTi (pt_cmpR (TD.op_tin g.hu) ha hb (mark_ok ok _)) fun σ H Q ⟨m, S, r, P, PX, bs, h, k⟩ => ?_⟩
  · simp only [ev] at h
    refine mkI bs h fun v S1 m1 H1 x1 q1 g1 b1 r1 => mkI b1 q1 fun u S2 m2 H2 x2 ⟨n, l, e0, e1, hq⟩ g2 b2 r2 => ?_
    have r1' := RV.grow b1.rep g2 _ _ r1
    subst e0
    simp only [RV] at r2
    obtain ⟨aa, hm, rfl⟩ := r2
    obtain ⟨ob, xs, hd, T, tr⟩ := b2.rep.rdT e1 hm
    refine ⟨aa, ob, xs, rfl, hd, by rw [g.hK]; exact T, ?_⟩
    have k2 := (k.grow g1).grow g2
    rcases hq with ⟨rfl, hq⟩ | ⟨ks, e4, hq⟩
    · simp only [RV] at r1'
      exact .inl ⟨r1', k2.bl b2.rep hq⟩
    · obtain ⟨b, rfl, hs⟩ := keyT_V e4 r1'
      obtain ⟨i1, i2⟩ := TR.at (k := ks) tr
      refine .inr ⟨b, ks, rfl, by rw [g.hK]; exact hs, ?_⟩
      have e5 : (atKey xs ks).isSome = (valT l ks).isSome := by
        cases ea : atKey xs ks with
        | none => rw [i2 ea]; rfl
        | some p =>
          obtain ⟨v', x', f1, f2, f3⟩ := i1 p ea
          rw [f1]
          rfl
      rw [e5]
      exact k2.bl b2.rep hq
  · simp only [ev] at h
    refine mkI bs h fun v S1 m1 H1 x1 q1 g1 b1 r1 => mkI b1 q1 fun u S2 m2 H2 x2 ⟨n, l, e0, e1, hq⟩ g2 b2 r2 => ?_
    have r1' := RV.grow b1.rep g2 _ _ r1
    subst e0
    simp only [RV] at r2
    obtain ⟨aa, hm, rfl⟩ := r2
    obtain ⟨ob, xs, hd, T, tr⟩ := b2.rep.rdT e1 hm
    refine ⟨aa, ob, xs, rfl, hd, by rw [g.hK]; exact T, ?_⟩
    rcases hq with ⟨rfl, hq⟩ | ⟨ks, e4, hq⟩
    · simp only [RV] at r1'
      obtain ⟨kk, hk1, hk2⟩ := k _ _ _ _ hq (g1.trans g2) b2.rep
      cases truV_bl hk1
      exact .inl ⟨r1', _, rfl, hk2⟩
    · obtain ⟨b, rfl, hs⟩ := keyT_V e4 r1'
      obtain ⟨i1, i2⟩ := TR.at (k := ks) tr
      have e5 : (atKey xs ks).isSome = (valT l ks).isSome := by
        cases ea : atKey xs ks with
        | none => rw [i2 ea]; rfl
        | some p =>
          obtain ⟨v', x', f1, f2, f3⟩ := i1 p ea
          rw [f1]
          rfl
      obtain ⟨kk, hk1, hk2⟩ := k _ _ _ _ hq (g1.trans g2) b2.rep
      cases truV_bl hk1
      refine .inr ⟨b, ks, rfl, by rw [g.hK]; exact hs, ?_⟩
      rw [e5]
      exact ⟨_, rfl, hk2⟩
theorem sd_dtv (g : Good Z C W F N sc X) {a : E} {x : Expr} (h : chk F N sc (.dtv a) x = true) (ha : ∀ y, chk F N sc a y = true → PE X y (tI Z W (ev C a))) : PE X x (tI Z W (ev C (.dtv a))) ∧ plainT x = true := by
  obtain ⟨⟨n, es⟩, h1, h2⟩ := anyS h
  obtain ⟨h2, h8⟩ := and2 h2
  obtain ⟨hk2, h2⟩ := and2 h2
  have hk2 := of_decide_eq_true hk2
  obtain ⟨e1, gl, hm, d1, d3⟩ := biC_ok g h2
  obtain ⟨p, q, rfl⟩ := vCall_eq h1
  refine ⟨?_, rfl⟩
  dsimp only at h8 e1 gl hm
  subst e1
  split at h8
  · obtain ⟨⟨y, n2, es2, ln⟩, h3, h4⟩ := anyS h8
    obtain ⟨h4, h9⟩ := and2 h4
    obtain ⟨h4, h10⟩ := and2 h4
    obtain ⟨h4, h11⟩ := and2 h4
    obtain ⟨h4, h12⟩ := and2 h4
    obtain ⟨p2, q2, rfl, hln⟩ := vMet_eq h3
    dsimp only at *
    have e3 : n2 = Str.ofString "values" := of_decide_eq_true h4
    have hl : (p2.endLine == q2.line) = true := by rw [← hln]; exact h12
    have e4 : es2 = [] := List.isEmpty_iff.mp h11
    have base := attr_ok (n := n2) (env := X.env) (chk_ok h9) (by simpa using h10)
    subst e3 e4
    refine PEi (TD.pe_tvals (p := p) (pos := q) (g.calm hk2) gl hm (ha _ h9) base hl) fun σ H Q ⟨m, S, r, P, PX, bs, h, k⟩ => ?_
    simp only [ev] at h
    refine mkI bs h fun v S1 m1 H1 x1 ⟨n, l, e1, h1, h2⟩ g1 b1 r1 => ?_
    subst e1
    simp only [RV] at r1
    obtain ⟨aa, hm, rfl⟩ := r1
    obtain ⟨ob, xs, hd, T, tr⟩ := b1.rep.rdT h1 hm
    obtain ⟨vs, v1, v2, v3⟩ := tr.vals
    exact ⟨aa, ob, xs, vs, rfl, hd, by rw [g.hK]; exact T, v2, v3, fun pp hp => (k.grow g1).alloc b1.rep h2 v1 hp⟩
  · cases h8
end
/-! ### dicts whose keys are whole numbers -/
theorem upd_upd {H : Hp} {a : Addr} {u v : HO} : upd (upd H a u) a v = upd H a v := by
  funext b
  by_cases c : b = a
  · subst c; rw [upd_same, upd_same]
  · rw [upd_ne c, upd_ne c, upd_ne c]
theorem DR.ints {K : PySem.W.Frag} {H : Hp} {m : List Addr} : ∀ {l : List (Ky × Val)} {ks : List (L2.Key × V)}, DR K H m l ks → (∀ p ∈ l, ∃ i : Int, p.1 = .inl i) → KD.Ints ks
  | [], _, h, _ => by
    have h : _ = [] := h
    subst h
    exact fun p hp => nomatch hp
  | p :: l, _, ⟨q, r, e, h1, _, h3⟩, hi => by
    subst e
    intro x hx
    rcases List.mem_cons.mp hx with rfl | hx
    · obtain ⟨i, e⟩ := hi p List.mem_cons_self
      exact ⟨i, by rw [h1, e]⟩
    · exact DR.ints h3 (fun y hy => hi y (List.mem_cons_of_mem _ hy)) x hx
theorem DR.len {K : PySem.W.Frag} {H : Hp} {m : List Addr} : ∀ {l : List (Ky × Val)} {ks : List (L2.Key × V)}, DR K H m l ks → l.length = ks.length
  | [], _, h => by
    have h : _ = [] := h
    subst h
    rfl
  | _ :: _, _, ⟨q, r, e, _, _, h3⟩ => by
    subst e
    rw [List.length_cons, List.length_cons, DR.len h3]
theorem DR.noV {K : PySem.W.Frag} {H : Hp} {m : List Addr} {k : Ky} : ∀ {l : List (Ky × Val)} {ks : List (L2.Key × V)}, DR K H m l ks → valD l k = none → valV ks k = none
  | [], _, h, _ => by
    have h : _ = [] := h
    subst h
    rfl
  | p :: l, _, ⟨q, r, e, h1, _, h3⟩, hv => by
    subst e
    unfold valD at hv
    split at hv
    · cases hv
    · rename_i c
      have c' : ¬ q.1 = k := by rw [h1]; exact c
      have := DR.noV h3 hv
      unfold valV at this ⊢
      rw [List.find?_cons_of_neg (by simpa using c')]
      exact this
theorem DR.isS {K : PySem.W.Frag} {H : Hp} {m : List Addr} {k : Ky} {l : List (Ky × Val)} {ks : List (L2.Key × V)} (h : DR K H m l ks) : (valV ks k).isSome = (valD l k).isSome := by
  cases e : valD l k with
  | none => rw [h.noV e]; rfl
  | some v =>
    obtain ⟨x, e2, _⟩ := h.val e
    rw [e2]
    rfl
section
variable {Z : Zt} {C : Call} {W : WX} {F : Facts} {N : List Str} {sc : Scope} {X : Cx}
theorem sd_dkf (g : Good Z C W F N sc X) {e : E} {x : Expr} (h : chk F N sc (.dkf e) x = true) (hv : ∀ y, chk F N sc e y = true → PE X y (tI Z W (ev C e))) : PE X x (tI Z W (ev C (.dkf e))) ∧ plainT x = true := by
  obtain ⟨⟨n, es⟩, h1, h2⟩ := anyS h
  obtain ⟨h2, h8⟩ := and2 h2
  obtain ⟨hk2, h2⟩ := and2 h2
  have hk2 := of_decide_eq_true hk2
  obtain ⟨e1, gl, hm, d1, d3⟩ := biC_ok g h2
  obtain ⟨p, q, rfl⟩ := vCall_eq h1
  refine ⟨?_, rfl⟩
  dsimp only at h8 e1 gl hm
  subst e1
  split at h8
  · have bd : bootBuiltins (Str.ofString "dict") = some (.type "dict") := by decide +kernel
    have s1 := fun r => star_ok (chk_ok h8) r X.env
    refine PEi (KD.pe_pin (pe_callTy (T := "dict") (p := p) (pos := q) (call_dictP (g.calm hk2)) gl hm bd (pa_cons (hv _ h8) pa_nil (s1 _)) d3 d1 (s1 _) rfl)) fun σ H Q ⟨m, S, r, P, PX, bs, h, k⟩ => ?_
    simp only [ev] at h
    unfold KD.tPin
    refine mkI bs h fun v S1 m1 H1 x1 ⟨j, l, ps, e, e0, ei, hi, hq⟩ g1 b1 r1 => ?_
    subst e
    simp only [RV] at r1
    obtain ⟨a, ha, rfl⟩ := r1
    obtain ⟨xs, hs, rs⟩ := b1.rep.rd e0 ha
    obtain ⟨as, ks, rfl, h3, h4⟩ := pairs_V ei rs
    refine ⟨a, as, ks, rfl, by rw [g.hK]; exact hs, by rw [g.hK]; exact h3, fun pp hp => ?_⟩
    have hd := DR.merge (acc := []) (ka := []) rfl h4
    refine ⟨pp, _, rfl, upd_same, hd.ints hi, fun ob T => ?_⟩
    rw [upd_upd]
    exact (k.grow g1).allocK b1.rep (hq ob) T hd hp
  · cases h8
theorem sd_dkz (g : Good Z C W F N sc X) {i j : Int} {x : Expr} (h : chk F N sc (.dkz i j) x = true) : PE X x (tI Z W (ev C (.dkz i j))) ∧ plainT x = true := by
  obtain ⟨⟨y, z⟩, h1, h2⟩ := anyS h
  obtain ⟨h3, h4⟩ := and2 h2
  obtain ⟨p, rfl⟩ := vD1_eq h1
  obtain ⟨k1, p1, e1⟩ := vInt_eq (of_decide_eq_true h3)
  obtain ⟨k2, p2, e2⟩ := vInt_eq (of_decide_eq_true h4)
  dsimp only at e1 e2
  subst e1 e2
  refine ⟨?_, rfl⟩
  refine PEi (KD.pe_pin (pe_disp (pps_cons pe_int pe_int pps_nil) rfl rfl (by simp) (by simp))) fun σ H Q ⟨m, S, r, P, PX, bs, h, k⟩ => ?_
  simp only [ev] at h
  intro pp hp
  refine ⟨upd_same, [(.inl i, .int j)], rfl, by simp, ?_⟩
  refine ⟨pp, _, rfl, upd_same, ?_, fun ob T => ?_⟩
  · intro q hq
    have hq : q ∈ [((.inl i : L2.Key), V.int j)] := hq
    rw [List.mem_singleton.mp hq]
    exact ⟨i, rfl⟩
  · rw [upd_upd, upd_upd]
    exact k.allocK bs.rep (h ob) T (⟨(.inl i, .int j), [], rfl, rfl, by simp only [RV], rfl⟩ : DR Z.K H m [(.inl i, .int j)] [(.inl i, .int j)]) hp
theorem sd_dkc (g : Good Z C W F N sc X) {e : E} {x : Expr} (h : chk F N sc (.dkc e) x = true) (hv : ∀ y, chk F N sc e y = true → PE X y (tI Z W (ev C e))) : PE X x (tI Z W (ev C (.dkc e))) ∧ plainT x = true := by
  obtain ⟨⟨n, es⟩, h1, h2⟩ := anyS h
  obtain ⟨h2, h8⟩ := and2 h2
  obtain ⟨hk2, h2⟩ := and2 h2
  have hk2 := of_decide_eq_true hk2
  obtain ⟨e1, gl, hm, d1, d3⟩ := biC_ok g h2
  obtain ⟨p, q, rfl⟩ := vCall_eq h1
  refine ⟨?_, rfl⟩
  dsimp only at h8 e1 gl hm
  subst e1
  split at h8
  · have bd : bootBuiltins (Str.ofString "dict") = some (.type "dict") := by decide +kernel
    have s1 := fun r => star_ok (chk_ok h8) r X.env
    refine PEi (pe_callTy (T := "dict") (p := p) (pos := q) (KD.call_kdict (g.calm hk2)) gl hm bd (pa_cons (hv _ h8) pa_nil (s1 _)) d3 d1 (s1 _) rfl) fun σ H Q ⟨m, S, r, P, PX, bs, h, k⟩ => ?_
    simp only [ev] at h
    refine mkI bs h fun v S1 m1 H1 x1 ⟨n, l, e, e0, hq⟩ g1 b1 r1 => ?_
    subst e
    simp only [RV] at r1
    obtain ⟨a, ha, rfl⟩ := r1
    obtain ⟨ob, ks, hd, T, tr⟩ := b1.rep.rdK e0 ha
    exact ⟨a, ob, ks, rfl, hd, T, fun pp ob' hp T' => (k.grow g1).allocK b1.rep (hq ob') T' tr hp⟩
  · cases h8
theorem sd_dkx (g : Good Z C W F N sc X) {a i : E} {x : Expr} (h : chk F N sc (.dkx a i) x = true) (ha : ∀ y, chk F N sc a y = true → PE X y (tI Z W (ev C a))) (hi : ∀ y, chk F N sc i y = true → PE X y (tI Z W (ev C i))) : PE X x (tI Z W (ev C (.dkx a i))) ∧ plainT x = true := by
  obtain ⟨⟨y, z⟩, h1, h2⟩ := anyS h
  obtain ⟨h2, h3⟩ := and2 h2
  obtain ⟨h4, h2⟩ := and2 h2
  obtain ⟨p, rfl⟩ := vSub_eq h1
  refine ⟨PEi (KD.pe_kget (ha _ h2) (hi _ h3) (noSl_ok h4)) fun σ H Q ⟨m, S, r, P, PX, bs, h, k⟩ => ?_, rfl⟩
  simp only [ev] at h
  refine mkI bs h fun v S1 m1 H1 x1 q1 g1 b1 r1 => mkI b1 q1 fun u S2 m2 H2 x2 ⟨n, l, kk, w, e1, e2, e3, e4, q⟩ g2 b2 r2 => ?_
  subst e1
  have r1' := RV.grow b1.rep g2 _ _ r1
  simp only [RV] at r1'
  obtain ⟨aa, hm, rfl⟩ := r1'
  obtain ⟨ob, ks, hd, T, hr⟩ := b2.rep.rdK e2 hm
  obtain ⟨xx, e5, r5⟩ := hr.val e4
  obtain rfl := kV_of e3 r2
  exact ⟨aa, ob, ks, kk, xx, rfl, hd, T, rfl, e5, (k.grow (g1.trans g2)).same b2.rep q r5⟩
theorem sd_dkm (g : Good Z C W F N sc X) {a b : E} {x y : Expr} {pos : Pos} (ok : okX y = true) (ha : PE X x (tI Z W (ev C a))) (hb : PE X y (tI Z W (ev C b))) :
    PE X (.Compare x [.In] [y] pos) (tI Z W (ev C (.dkm a b))) ∧ PT X (.Compare x [.In] [y] pos) (tT Z W (ev C (.dkm a b))) := by
  refine ⟨PEi (pe_cmpR KD.op_kin ha hb (mark_ok ok _)) fun σ H Q ⟨m, S, r, P, PX, bs, h, k⟩ => ?_, PTi (pt_cmpR KD.op_kin ha hb (mark_ok ok _)) fun σ H Q ⟨m, S, r, P, PX, bs, h, k⟩ => ?_⟩
  · simp only [ev] at h
    refine mkI bs h fun v S1 m1 H1 x1 q1 g1 b1 r1 => mkI b1 q1 fun u S2 m2 H2 x2 ⟨n, l, kk, e0, e1, e3, hq⟩ g2 b2 r2 => ?_
    have r1' := RV.grow b1.rep g2 _ _ r1
    subst e0
    simp only [RV] at r2
    obtain ⟨aa, hm, rfl⟩ := r2
    obtain ⟨ob, ks, hd, T, tr⟩ := b2.rep.rdK e1 hm
    obtain rfl := kV_of e3 r1'
    refine ⟨aa, ob, ks, kk, rfl, hd, T, rfl, ?_⟩
    rw [tr.isS]
    exact ((k.grow g1).grow g2).bl b2.rep hq
  · simp only [ev] at h
    refine mkI bs h fun v S1 m1 H1 x1 q1 g1 b1 r1 => mkI b1 q1 fun u S2 m2 H2 x2 ⟨n, l, kk, e0, e1, e3, hq⟩ g2 b2 r2 => ?_
    have r1' := RV.grow b1.rep g2 _ _ r1
    subst e0
    simp only [RV] at r2
    obtain ⟨aa, hm, rfl⟩ := r2
    obtain ⟨ob, ks, hd, T, tr⟩ := b2.rep.rdK e1 hm
    obtain rfl := kV_of e3 r1'
    obtain ⟨k2, hk1, hk2⟩ := k _ _ _ _ hq (g1.trans g2) b2.rep
    cases truV_bl hk1
    refine ⟨aa, ob, ks, kk, rfl, hd, T, rfl, ?_⟩
    rw [tr.isS]
    exact ⟨_, rfl, hk2⟩
theorem sd_dkn (g : Good Z C W F N sc X) {a b : E} {x y : Expr} {pos : Pos} (ok : okX y = true) (ha : PE X x (tI Z W (ev C a))) (hb : PE X y (tI Z W (ev C b))) :
    PE X (.Compare x [.NotIn] [y] pos) (tI Z W (ev C (.dkn a b))) ∧ PT X (.Compare x [.NotIn] [y] pos) (tT Z W (ev C (.dkn a b))) := by
  refine ⟨PEi (pe_cmpR KD.op_knotin ha hb (mark_ok ok _)) fun σ H Q ⟨m, S, r, P, PX, bs, h, k⟩ => ?_, PTi (pt_cmpR KD.op_knotin ha hb (mark_ok ok _)) fun σ H Q ⟨m, S, r, P, PX, bs, h, k⟩ => ?_⟩
  · simp only [ev] at h
    refine mkI bs h fun v S1 m1 H1 x1 q1 g1 b1 r1 => mkI b1 q1 fun u S2 m2 H2 x2 ⟨n, l, kk, e0, e1, e3, hq⟩ g2 b2 r2 => ?_
    have r1' := RV.grow b1.rep g2 _ _ r1
    subst e0
    simp only [RV] at r2
    obtain ⟨aa, hm, rfl⟩ := r2
    obtain ⟨ob, ks, hd, T, tr⟩ := b2.rep.rdK e1 hm
    obtain rfl := kV_of e3 r1'
    refine ⟨aa, ob, ks, kk, rfl, hd, T, rfl, ?_⟩
    rw [tr.isS]
    exact ((k.grow g1).grow g2).bl b2.rep hq
  · simp only [ev] at h
    refine mkI bs h fun v S1 m1 H1 x1 q1 g1 b1 r1 => mkI b1 q1 fun u S2 m2 H2 x2 ⟨n, l, kk, e0, e1, e3, hq⟩ g2 b2 r2 => ?_
    have r1' := RV.grow b1.rep g2 _ _ r1
    subst e0
    simp only [RV] at r2
    obtain ⟨aa, hm, rfl⟩ := r2
    obtain ⟨ob, ks, hd, T, tr⟩ := b2.rep.rdK e1 hm
    obtain rfl := kV_of e3 r1'
    obtain ⟨k2, hk1, hk2⟩ := k _ _ _ _ hq (g1.trans g2) b2.rep
    cases truV_bl hk1
    refine ⟨aa, ob, ks, kk, rfl, hd, T, rfl, ?_⟩
    rw [tr.isS]
    exact ⟨_, rfl, hk2⟩
theorem sd_dkl (g : Good Z C W F N sc X) {e : E} {x : Expr} (h : chk F N sc (.dkl e) x = true) (hv : ∀ y, chk F N sc e y = true → PE X y (tI Z W (ev C e))) : PE X x (tI Z W (ev C (.dkl e))) ∧ plainT x = true := by
  obtain ⟨⟨n, es⟩, h1, h2⟩ := anyS h
  obtain ⟨h2, h8⟩ := and2 h2
  obtain ⟨e1, gl, hm, d1, d3⟩ := biC_ok g h2
  obtain ⟨p, q, rfl⟩ := vCall_eq h1
  refine ⟨?_, rfl⟩
  dsimp only at h8 e1 gl hm
  subst e1
  split at h8
  · have bl : bootBuiltins (Str.ofString "len") = some (.builtin "len") := by decide +kernel
    have s1 := fun r => star_ok (chk_ok h8) r X.env
    refine PEi (pe_callB (p := p) (pos := q) KD.cr_klen gl hm bl (pa_cons (hv _ h8) pa_nil (s1 _)) d3 d1 (s1 _) rfl) fun σ H Q ⟨m, S, r, P, PX, bs, h, k⟩ => ?_
    simp only [ev] at h
    refine mkI bs h fun v S1 m1 H1 x1 ⟨n, l, e, e0, hq⟩ g1 b1 r1 => ?_
    subst e
    simp only [RV] at r1
    obtain ⟨a, ha, rfl⟩ := r1
    obtain ⟨ob, ks, hd, T, tr⟩ := b1.rep.rdK e0 ha
    refine ⟨a, ob, ks, rfl, hd, T, ?_⟩
    rw [← tr.len]
    exact (k.grow g1).int b1.rep hq
  · cases h8
/-! ### texts -/
theorem RVs.strs {K : PySem.W.Frag} {H : Hp} {m : List Addr} : ∀ {l : List Val} {xs : List V} {ns : List Str}, RVs K H m l xs → strsOf l = some ns → xs = ns.map V.str
  | [], xs, ns, h, e => by simp only [RVs] at h; simp [strsOf] at e; rw [h, e]; rfl
  | v :: l, xs, ns, h, e => by
    simp only [RVs] at h
    obtain ⟨x, r, rfl, h1, h2⟩ := h
    cases v with
    | str i =>
      simp only [strsOf, Option.map_eq_some_iff] at e
      obtain ⟨k, e1, rfl⟩ := e
      simp only [RV] at h1
      rw [h1, RVs.strs h2 e1]
      rfl
    | _ => simp [strsOf] at e
theorem sd_upp (g : Good Z C W F N sc X) {e : E} {x : Expr} (h : chk F N sc (.upp e) x = true) (hv : ∀ y, chk F N sc e y = true → PE X y (tI Z W (ev C e))) : PE X x (tI Z W (ev C (.upp e))) ∧ plainT x = true := by
  obtain ⟨⟨y, n, es, ln⟩, h1, h2⟩ := anyS h
  obtain ⟨h2, h8⟩ := and2 h2
  obtain ⟨h2, h7⟩ := and2 h2
  obtain ⟨h2, h6⟩ := and2 h2
  obtain ⟨h4, h5⟩ := and2 h2
  obtain ⟨p, q, rfl, hln⟩ := vMet_eq h1
  have e3 : n = Str.ofString "upper" := of_decide_eq_true h4
  have hl : (p.endLine == q.line) = true := by rw [← hln]; exact h5
  have base := attr_ok (n := n) (env := X.env) (chk_ok h8) (by simpa using h6)
  subst e3
  obtain rfl : es = [] := List.isEmpty_iff.mp h7
  refine ⟨PEi (pe_m0 PySem.F.slot_str_upper PySem.F.type_str_upper mt_upper (hv _ h8) base hl) fun σ H Q ⟨m, S, r, P, PX, bs, h, k⟩ => ?_, rfl⟩
  simp only [ev] at h
  exact mkI bs h fun v S1 m1 H1 x1 ⟨z, e1, e2, q1⟩ g1 b1 r1 => by
    subst e1
    simp only [RV] at r1
    subst r1
    exact ⟨⟨z, rfl⟩, z, rfl, rfl, e2, (k.grow g1).str b1.rep q1⟩
theorem sd_scn (g : Good Z C W F N sc X) {e : E} {s : Str} {x : Expr} (h : chk F N sc (.scn e s) x = true) (hv : ∀ y, chk F N sc e y = true → PE X y (tI Z W (ev C e))) : PE X x (tI Z W (ev C (.scn e s))) ∧ plainT x = true := by
  obtain ⟨⟨y, n, es, ln⟩, h1, h2⟩ := anyS h
  obtain ⟨h2, h8⟩ := and2 h2
  obtain ⟨h2, h7⟩ := and2 h2
  obtain ⟨h2, h6⟩ := and2 h2
  obtain ⟨h4, h5⟩ := and2 h2
  obtain ⟨p, q, rfl, hln⟩ := vMet_eq h1
  have e3 : n = Str.ofString "count" := of_decide_eq_true h4
  have hl : (p.endLine == q.line) = true := by rw [← hln]; exact h5
  have base := attr_ok (n := n) (env := X.env) (chk_ok h8) (by simpa using h6)
  subst e3
  dsimp only at h7
  split at h7
  · rename_i y1
    obtain ⟨c, c1, c2⟩ := anyS h7
    obtain ⟨kk, pp, rfl⟩ := vCon_eq c1
    have hc := conB_r (X := X) (Z := Z) (W := W) (C := C) (k := kk) (p := pp) c2
    refine ⟨PEi (pe_m1 PySem.F.slot_str_count PySem.F.type_str_count mt_count (hv _ h8) hc (star_ok rfl [] X.env) base hl) fun σ H Q ⟨m, S, r, P, PX, bs, h, k⟩ => ?_, rfl⟩
    simp only [ev] at h
    exact mkI bs h fun v S1 m1 H1 x1 ⟨z, e1, q1⟩ g1 b1 r1 => by
      subst e1
      have r0 := r1
      simp only [RV] at r1
      subst r1
      refine ⟨⟨z, rfl⟩, mkI b1 (show ev C (.con (.str s)) r S1 (fun v S2 => v = .str s ∧ P (.int (Txt.count z s)) S2) PX by unfold ev; exact ⟨rfl, q1⟩) fun v2 S2 m2 H2 x2 ⟨e2, q2⟩ g2 b2 r2 => ?_⟩
      subst e2
      simp only [RV] at r2
      subst r2
      exact ⟨z, s, rfl, rfl, ((k.grow g1).grow g2).int b2.rep q2⟩
  · cases h7
theorem sd_jn (g : Good Z C W F N sc X) {e : E} {sep : Str} {x : Expr} (h : chk F N sc (.jn sep e) x = true) (hv : ∀ y, chk F N sc e y = true → PE X y (tI Z W (ev C e))) : PE X x (tI Z W (ev C (.jn sep e))) ∧ plainT x = true := by
  obtain ⟨⟨y, n, es, ln⟩, h1, h2⟩ := anyS h
  obtain ⟨h2, h7⟩ := and2 h2
  obtain ⟨h2, h6⟩ := and2 h2
  obtain ⟨h4, h5⟩ := and2 h2
  obtain ⟨p, q, rfl, hln⟩ := vMet_eq h1
  have e3 : n = Str.ofString "join" := of_decide_eq_true h4
  have hl : (p.endLine == q.line) = true := by rw [← hln]; exact h5
  subst e3
  obtain ⟨c, c1, c2⟩ := anyS h6
  obtain ⟨kk, pp, e4⟩ := vCon_eq c1
  dsimp only at e4
  subst e4
  have hc := conB_r (X := X) (Z := Z) (W := W) (C := C) (k := kk) (p := pp) c2
  dsimp only at h7
  split at h7
  · rename_i y1
    refine ⟨PEi (pe_join hc (hv _ h7) (star_ok (chk_ok h7) [] X.env) (attr_ok rfl rfl) hl) fun σ H Q ⟨m, S, r, P, PX, bs, h, k⟩ => ?_, rfl⟩
    simp only [ev] at h
    refine mkI bs (show ev C (.con (.str sep)) r S (fun v S1 => v = .str sep ∧ S1 = S) PX by unfold ev; exact ⟨rfl, rfl⟩) fun v0 S0 m0 H0 x0 ⟨e0, e0'⟩ g0 b0 r0 => ?_
    subst e0 e0'
    simp only [RV] at r0
    subst r0
    refine ⟨⟨sep, rfl⟩, mkI b0 h fun v S1 m1 H1 x1 ⟨l, ys, e1, e2, e3, q1⟩ g1 b1 r1 => ?_⟩
    obtain ⟨b, a, xs, rfl, hs, rs⟩ := seqOf_V b1.rep e1 r1
    obtain rfl := rs.strs e2
    refine ⟨sep, a, ys, rfl, rfl, ?_, e3, ((k.grow g0).grow g1).str b1.rep q1⟩
    rw [g.hK]
    cases b with
    | true => exact .inr hs
    | false => exact .inl hs
  · cases h7
/-! ### dicts of the module -/
theorem EnV.kv {w : World} : ∀ {l : List (Str × Val)} {es : List DictEntry}, EnV l es → es.map He.keyOf = He.keysIn w.params (l.map (·.1)) → ∃ (ks : List (L2.Key × V)) (vs : List (L2.Key × Value)), (∀ K H m, DR K H m (l.map fun p => ((.inr p.1 : Ky), p.2)) ks) ∧ L2.KV ks vs ∧ vs.map (·.1) = l.map (fun p => (.inr p.1 : Ky)) ∧
    ∀ P : Program, Pairs (mixKind P w) es vs ∧ ∀ e ∈ es, ∃ k, (mixKind P w).is k e.key = true ∧ e.hash = (mixKind P w).hash k
  | [], es, h, _ => by
    have h : es = [] := h
    subst h
    exact ⟨[], [], fun _ _ _ => rfl, .nil, rfl, fun P => ⟨.nil, fun e h => nomatch h⟩⟩
  | p :: l, es, ⟨e, r, x, h1, h2, h3, h4, h5⟩, hk => by
    subst h1
    rw [List.map_cons, List.map_cons] at hk
    have hk' : He.keyOf e :: r.map He.keyOf = some (p.1, PyData.keyHash w.params p.1) :: He.keysIn w.params (l.map (·.1)) := hk
    injection hk' with k1 k2
    obtain ⟨ks, vs, a1, a2, a3, a4⟩ := EnV.kv h5 k2
    have hh : e.hash = PyData.keyHash w.params p.1 := by
      rw [h2] at k1
      exact congrArg (fun z : Str × Int => z.2) (Option.some.inj k1)
    obtain ⟨t, ht⟩ : ∃ t, e.key = .str p.1 t := by
      unfold He.keyOf at h2
      split at h2
      · rename_i y t q
        have := congrArg (fun z : Str × Int => z.1) (Option.some.inj h2)
        have e0 : y = p.1 := this
        rw [← e0]
        exact ⟨t, q⟩
      · cases h2
    refine ⟨(.inr p.1, x) :: ks, (.inr p.1, e.val) :: vs, fun K H m => ⟨_, _, rfl, rfl, h3 K H m, a1 K H m⟩, .cons ⟨rfl, h4⟩ a2, by rw [List.map_cons, List.map_cons, a3], fun P => ?_⟩
    have hi : (mixKind P w).is (.inr p.1) e.key = true := by rw [ht]; exact PySem.strKind_is P w p.1 t
    refine ⟨.cons hi rfl (a4 P).1, fun e' he => ?_⟩
    rcases List.mem_cons.mp he with rfl | he
    · exact ⟨.inr p.1, hi, hh⟩
    · exact (a4 P).2 e' he
theorem call_dictW (hcm : X.calm = true) {p : String × List (Str × Val)} {mg : Str → Option Value} (D : DcF X.K mg X.w p) : ∃ a ks, mg (Str.ofString p.1) = some (.ref a) ∧ (∀ K H m, DR K H m (p.2.map fun p => ((.inr p.1 : Ky), p.2)) ks) ∧
    CallR X (.type "dict") (fun xs H Q => xs = [.ref a] ∧ ∀ pp, H pp = none → Q (.ref pp) (upd H pp (.dK ks))) := by
  obtain ⟨a, es, n, h1, h2, h3, h4, h5, hl0, h6⟩ := D
  have hl : p.2.length ≤ sizeLine := by rw [sz]; omega
  obtain ⟨ks, vs, a1, a2, a3, a4⟩ := h6.kv h4
  have hlk : ks.length = p.2.length := by
    have e1 : ks.length = vs.length := Paired.length a2
    have e2 := congrArg List.length a3
    simp at e2
    omega
  have hlv : vs.length = p.2.length := by
    have e2 := congrArg List.length a3
    simpa using e2
  refine ⟨a, ks, h1, a1, fun pins s σ H xs us Q I r h => ?_⟩
  obtain ⟨rfl, q⟩ := h
  obtain ⟨u, eu, rx⟩ := vals1 r
  subst eu
  cases rx
  have dd : s.heap.DictOf (mixKind X.prog X.w) a vs := by
    refine ⟨_, es, n, I.kIn _ _ h2, ⟨rfl, rfl, rfl⟩, rfl, fun e he => (a4 X.prog).2 e (Array.mem_toList_iff.mpr he), (a4 X.prog).1, ?_⟩
    rw [a3]
    have : (p.2.map fun p => (.inr p.1 : Ky)) = (p.2.map (·.1)).map Sum.inr := by rw [List.map_map]; rfl
    rw [this]
    refine List.Pairwise.map _ (fun x y hxy e => hxy (Sum.inr.inj e)) h5
  refine kt_call_dict h3 dd (by omega) fun h' dd' hs => ?_
  have hn := I.hok.fresh (Nat.le_refl s.heap.objs.size)
  have keep : ∀ b o, s.heap.get? b = some o → h'.get? b = some o := fun b o e => (hs.2 b (Nat.ne_of_lt (Heap.lt_size e))).trans (Heap.get?_push_of_some _ e)
  have I1 : Inv X pins σ (upd H s.heap.objs.size (.dK ks)) { s with heap := h' } := I.laid (t' := s.toks) keep (Nat.le_refl _) (show ObjOk X.prog X.w _ _ _ (.dK ks) from ⟨by omega, beq_eq_false_iff_ne.mpr (Nat.ne_of_gt I.big), vs, a2, dd'⟩)
  exact ⟨.ref s.heap.objs.size, _, I1, rfl, q _ hn⟩
theorem sd_dcg (g : Good Z C W F N sc X) {gn : String} {kvs : List (Str × Val)} {x : Expr} (h : chk F N sc (.dcg gn kvs) x = true) : PE X x (tI Z W (ev C (.dcg gn kvs))) ∧ plainT x = true := by
  obtain ⟨⟨n, es⟩, h1, h2⟩ := anyS h
  obtain ⟨h2, h8⟩ := and2 h2
  obtain ⟨hk2, h2⟩ := and2 h2
  have hk2 := of_decide_eq_true hk2
  obtain ⟨e1, gl, hm, d1, d3⟩ := biC_ok g h2
  obtain ⟨p, q, rfl⟩ := vCall_eq h1
  refine ⟨?_, rfl⟩
  dsimp only at h8 e1 gl hm
  subst e1
  split at h8
  · rename_i y
    obtain ⟨nm, n1, n2⟩ := anyS h8
    obtain ⟨n2, n3⟩ := and2 n2
    obtain ⟨n2, n4⟩ := and2 n2
    obtain ⟨n5, n6⟩ := and2 n2
    obtain ⟨p2, rfl⟩ := vName_eq n1
    obtain ⟨qq, q1, q2⟩ := List.any_eq_true.mp n3
    obtain ⟨q3, q4⟩ := and2 q2
    have e5 : qq.1 = gn := by simpa using q3
    have e6 := kvsB_eq q4
    have D := g.dc hk2 qq q1
    obtain ⟨a, ks, m1, m2, m3⟩ := call_dictW (g.calm hk2) D
    rw [e5, ← of_decide_eq_true n5] at m1
    rw [e6] at m2
    have bd : bootBuiltins (Str.ofString "dict") = some (.type "dict") := by decide +kernel
    obtain ⟨k1, k2, k3⟩ := okB_d n4
    have hp := pe_glob (pos := p2) (glB_g (by rw [g.hsc]; exact n6)) m1 (show RelV (.ref a) (.ref a) from rfl) k1
    have s1 : ∀ r, starEach (.Name nm p2 :: r) X.env = (false, eval (.Name nm p2) X.env) :: starEach r X.env := fun r => star_ok rfl r X.env
    refine PEi (pe_callTy (T := "dict") (p := p) (pos := q) m3 gl hm bd (pa_cons hp pa_nil (s1 _)) d3 d1 (s1 _) rfl) fun σ H Q ⟨m, S, r, P, PX, bs, h, k⟩ => ?_
    simp only [ev] at h
    exact ⟨rfl, fun pp hp => k.allocD bs.rep h (m2 _ _ _) hp⟩
  · cases h8
theorem sd_dim (g : Good Z C W F N sc X) {a b : E} {x y : Expr} {pos : Pos} (ok : okX y = true) (ha : PE X x (tI Z W (ev C a))) (hb : PE X y (tI Z W (ev C b))) :
    PE X (.Compare x [.In] [y] pos) (tI Z W (ev C (.dim a b))) ∧ PT X (.Compare x [.In] [y] pos) (tT Z W (ev C (.dim a b))) := by
  have hu : X.A.units + 1 < cLine := by have := g.hu; omega
  refine ⟨PEi (pe_cmp (pc_din hu ha hb) (mark_ok ok _)) fun σ H Q ⟨m, S, r, P, PX, bs, h, k⟩ => ?_, PTi (pt_cmp (pc_din hu ha hb) (mark_ok ok _)) fun σ H Q ⟨m, S, r, P, PX, bs, h, k⟩ => ?_⟩
  · simp only [ev] at h
    refine mkI bs h fun v S1 m1 H1 x1 q1 g1 b1 r1 => mkI b1 q1 fun u S2 m2 H2 x2 ⟨n, l, kk, e0, e1, e3, hq⟩ g2 b2 r2 => ?_
    have r1' := RV.grow b1.rep g2 _ _ r1
    subst e0
    simp only [RV] at r2
    obtain ⟨aa, hm, rfl⟩ := r2
    obtain ⟨ks, hd, tr⟩ := b2.rep.rdD e1 hm
    obtain rfl := kV_of e3 r1'
    refine ⟨aa, _, rfl, DGet.k hd, ?_⟩
    rw [tr.isS]
    exact ((k.grow g1).grow g2).bl b2.rep hq
  · simp only [ev] at h
    refine mkI bs h fun v S1 m1 H1 x1 q1 g1 b1 r1 => mkI b1 q1 fun u S2 m2 H2 x2 ⟨n, l, kk, e0, e1, e3, hq⟩ g2 b2 r2 => ?_
    have r1' := RV.grow b1.rep g2 _ _ r1
    subst e0
    simp only [RV] at r2
    obtain ⟨aa, hm, rfl⟩ := r2
    obtain ⟨ks, hd, tr⟩ := b2.rep.rdD e1 hm
    obtain rfl := kV_of e3 r1'
    obtain ⟨k2, hk1, hk2⟩ := k _ _ _ _ hq (g1.trans g2) b2.rep
    cases truV_bl hk1
    refine ⟨aa, _, rfl, DGet.k hd, ?_⟩
    rw [tr.isS]
    exact ⟨_, rfl, hk2⟩

/-! ### repr of data, dicts without entries among it -/
theorem list_sys {pins : List (Addr × PySem.Obj)} {σ : L2.St} {H : Hp} {s : Shared} (sm : SmF X.K) (I : Inv X pins σ H s) {a : Addr} {o : PySem.Obj} (e : s.heap.get? a = some o) (c : o.cls = .type "list") : a ≠ sysModules := fun z => by
  obtain ⟨ob, e1, e2⟩ := sm
  have e3 := I.kIn _ _ e1
  rw [z, e3] at e
  have := Option.some.inj e
  rw [← this, e2] at c
  injection c with c
  exact absurd c (by decide)
theorem toR_reads {pins : List (Addr × PySem.Obj)} {σ : L2.St} {H : Hp} {s : Shared} (hK : X.K = Z.K) (sm : SmF X.K) (I : Inv X pins σ H s) {m : List Addr} {S : Sto} (R : Rep Z m S H) : ∀ (n : Nat) (v : Val) (x : V) (d : PyData) (u : Value), toR n S v = some d → RV Z.K H m v x → RelV x u → ∃ as, Reads s.heap u d as ∧ sysModules ∉ as ∧ d.depth ≤ n := by
  intro n
  induction n with
  | zero => intro v x d u h; simp [toR] at h
  | succ n ih =>
    have all : ∀ (l : List Val) (xs : List V) (ds : List PyData) (us : List Value), l.mapM (toR n S) = some ds → RVs Z.K H m l xs → Vals xs us → ∃ as, ReadsAll s.heap us ds as ∧ sysModules ∉ as ∧ ∀ d ∈ ds, d.depth ≤ n := by
      intro l
      induction l with
      | nil =>
        intro xs ds us h r rv
        simp only [RVs] at r
        rcases mapM_of h with ⟨_, rfl⟩ | ⟨_, _, _, _, e, _⟩
        · subst r
          cases rv
          exact ⟨[], .nil, by simp, by simp⟩
        · cases e
      | cons v l ih2 =>
        intro xs ds us h r rv
        simp only [RVs] at r
        obtain ⟨x, xs', rfl, r1, r2⟩ := r
        rcases mapM_of h with ⟨e, _⟩ | ⟨a, l', d, ds', e, rfl, h1, h2⟩
        · cases e
        · cases e
          cases rv with
          | cons q1 q2 =>
            obtain ⟨as, a1, a2, a3⟩ := ih _ _ _ _ h1 r1 q1
            obtain ⟨bs, b1, b2, b3⟩ := ih2 _ _ _ h2 r2 q2
            refine ⟨as ++ bs, .cons a1 b1, fun z => (List.mem_append.mp z).elim a2 b2, fun e he => ?_⟩
            rcases List.mem_cons.mp he with rfl | he
            · exact a3
            · exact b3 e he
    intro v x d u h r rv
    cases v with
    | exn _ _ => simp [toR] at h
    | non => simp [toR] at h; simp only [RV] at r; subst h r; cases rv; exact ⟨[], .none, by simp, by simp [PyData.depth]⟩
    | bl b => simp [toR] at h; simp only [RV] at r; subst h r; cases rv; exact ⟨[], .bool b, by simp, by simp [PyData.depth]⟩
    | int b => simp [toR] at h; simp only [RV] at r; subst h r; obtain ⟨t, rfl⟩ := rv; exact ⟨[], .int b t, by simp, by simp [PyData.depth]⟩
    | str z =>
      simp only [RV] at r
      subst r
      simp only [toR] at h
      split at h
      · cases h
        obtain ⟨t, rfl⟩ := rv
        exact ⟨[], .str z t, by simp, by simp [PyData.depth]⟩
      · cases h
    | tup l =>
      simp only [RV] at r
      obtain ⟨a, xs, rfl, hs, r⟩ := r
      simp only [toR, Option.map_eq_some_iff] at h
      obtain ⟨ds, h1, rfl⟩ := h
      cases rv
      obtain ⟨its, rv, ⟨o, ho, hc, n', hd⟩, hz⟩ := I.tuple (show SqT X.K H a xs by rw [hK]; exact hs)
      obtain ⟨as, a1, a2, a3⟩ := all l xs ds its h1 r rv
      refine ⟨as, .tuple ho hc hd (by simpa using a1), a2, ?_⟩
      have := depth_all a3
      simp only [PyData.depth]
      omega
    | obj k =>
      simp only [RV] at r
      obtain ⟨a, hm, rfl⟩ := r
      simp only [toR] at h
      cases rv
      cases q : rdL S k with
      | some l =>
        rw [q] at h
        simp only [Option.map_eq_some_iff] at h
        obtain ⟨ds, h1, rfl⟩ := h
        obtain ⟨xs, hs, r⟩ := R.rd q hm
        obtain ⟨its, rv, ⟨o, n0, ho, hc, _, hd⟩, hz⟩ := I.list (show SqL X.K H a xs by rw [hK]; exact hs)
        obtain ⟨as, a1, a2, a3⟩ := all l xs ds its h1 r rv
        refine ⟨a :: as, .list ho hc hd (by simpa using a1), fun z => ?_, ?_⟩
        · rcases List.mem_cons.mp z with z | z
          · exact list_sys sm I ho hc z.symm
          · exact a2 z
        · have := depth_all a3
          simp only [PyData.depth]
          omega
      | none =>
        rw [q] at h
        dsimp only at h
        split at h
        · rename_i q2
          cases h
          obtain ⟨ks, hd, hr⟩ := R.rdD q2 hm
          have hr : ks = [] := hr
          subst hr
          obtain ⟨_, hS, vs, rel, o, es, ep, ho, hex, hdt, _, hp, _⟩ := I.hok a _ hd
          cases rel
          have hes : es.toList = [] := by
            generalize es.toList = l at hp
            cases hp
            rfl
          refine ⟨a :: [] ++ [], .dict (kvs := []) ho hex.1 hdt (by rw [hes]; exact .nil) (by rw [hes]; exact .nil), fun z => ?_, by simp [PyData.depth, PyData.depthKv]⟩
          have z : sysModules = a := by simpa using z
          exact (beq_eq_false_iff_ne.mp hS) z.symm
        · cases h
theorem call_reprR (hK : X.K = Z.K) (sm : SmF X.K) (hg : X.A.guards = some []) (hu : X.A.units + 64 < cLine) : CallR X (.builtin "repr") (fun xs H Q => ∃ m S v x d, xs = [x] ∧ Rep Z m S H ∧ RV Z.K H m v x ∧ toR 60 S v = some d ∧ d.showable = true ∧ d.shown.length ≤ 16777216 ∧ Q (.str d.shown) H) := by
  intro pins s σ H vs us Q I r h
  obtain ⟨m, S, v, x, d, rfl, R, rv, hd, hsh, hlen, q⟩ := h
  obtain ⟨u, rfl, rx⟩ := vals1 r
  have hlen2 : d.shown.length ≤ sizeLine := by rw [sz]; exact hlen
  obtain ⟨as, rd, hsm, hdep⟩ := toR_reads hK sm I R 60 v x d u hd rv rx
  have fin : ∀ (h' : Heap) (u : Tok) (tk : Nat), (∀ b o, s.heap.get? b = some o → h'.get? b = some o) → EP X pins σ Q (.str d.shown u) { s with heap := h', toks := tk } := fun h' u tk k => ⟨.str d.shown, H, I.kept k, ⟨u, rfl⟩, q⟩
  cases rd with
  | none => simp only [PyData.shown] at fin; exact PySem.P.repr_of_none (fin s.heap _ _ fun _ _ e => e)
  | bool b => simp only [PyData.shown] at fin; exact PySem.P.repr_of_bool (fin s.heap _ _ fun _ _ e => e)
  | int i t =>
    simp only [PyData.shown] at fin
    exact PySem.P.repr_of_int (by simpa [PyData.showable] using hsh) (fin s.heap _ _ fun _ _ e => e)
  | str z t =>
    simp only [PyData.shown] at fin hlen2
    exact PySem.P.repr_of_str (fin s.heap _ _ fun _ _ e => e) hlen2
  | list h1 h2 h3 h4 => exact repr_of_reads' (.list h1 h2 h3 h4) hsh (fun _ => hsm) hg (by omega) (fun _ _ e => e) (fun h' u tk k => fin h' u tk k) hlen2
  | tuple h1 h2 h3 h4 => exact repr_of_reads' (.tuple h1 h2 h3 h4) hsh (fun _ => hsm) hg (by omega) (fun _ _ e => e) (fun h' u tk k => fin h' u tk k) hlen2
  | dict h1 h2 h3 h4 h5 => exact repr_of_reads' (.dict h1 h2 h3 h4 h5) hsh (fun _ => hsm) hg (by omega) (fun _ _ e => e) (fun h' u tk k => fin h' u tk k) hlen2
theorem sd_rpr (g : Good Z C W F N sc X) {e : E} {x : Expr} (h : chk F N sc (.rpr e) x = true) (hv : ∀ y, chk F N sc e y = true → PE X y (tI Z W (ev C e))) : PE X x (tI Z W (ev C (.rpr e))) ∧ plainT x = true := by
  obtain ⟨⟨n, es⟩, h1, h2⟩ := anyS h
  obtain ⟨h2, h8⟩ := and2 h2
  obtain ⟨hk2, h2⟩ := and2 h2
  have hk0 : F.kind = 0 := of_decide_eq_true hk2
  obtain ⟨e1, gl, hm, d1, d3⟩ := biC_ok g h2
  obtain ⟨p, q, rfl⟩ := vCall_eq h1
  refine ⟨?_, rfl⟩
  dsimp only at h8 e1 gl hm
  subst e1
  split at h8
  · have bd : bootBuiltins (Str.ofString "repr") = some (.builtin "repr") := by decide +kernel
    have s1 := fun r => star_ok (chk_ok h8) r X.env
    refine PEi (pe_callB (p := p) (pos := q) (call_reprR g.hK (g.sm (by rw [hk0]; decide)) (g.gd hk0) g.hu) gl hm bd (pa_cons (hv _ h8) pa_nil (s1 _)) d3 d1 (s1 _) rfl) fun σ H Q ⟨m, S, r, P, PX, bs, h, k⟩ => ?_
    simp only [ev] at h
    exact mkI bs h fun v S1 m1 H1 x1 ⟨d, e1, e2, e3, q1⟩ g1 b1 r1 => ⟨m1, S1, v, x1, d, rfl, b1.rep, r1, e1, e2, e3, (k.grow g1).str b1.rep q1⟩
  · cases h8

end
end Mp

set_option Elab.async false
set_option linter.all false
set_option maxRecDepth 100000
set_option autoImplicit false
set_option maxHeartbeats 2000000
/-! Mini13: what is walked, comprehensions, and all expressions. -/
namespace Mp
open PySem PySem.Spec PyProof.Rows L2
section
variable {Z : Zt} {C : Call} {W : WX} {F : Facts} {N : List Str} {sc : Scope} {X : Cx} {tg : Expr}
def RI (v : Val) (S : Sto) (P : QI) : Prop := match v with
  | .tup l => P l (fun _ => True) S
  | .obj n => ∃ l, rdL S n = some l ∧ P l (fun S' => rdL S' n = some l) S
  | .str z => z.cps.size ≤ 16777216 ∧ P (chars z) (fun _ => True) S
  | _ => False
theorem pi_val (g : Good Z C W F N sc X) {e : E} {x : Expr} (h : PE X x (tI Z W (ev C e))) : PI X tg x (tIt Z W (evI C (.val e))) := by
  refine ⟨fun pins s σ H R I ⟨m, S, r, P, PX, b, h0, k⟩ => ?_⟩
  simp only [evI] at h0
  refine thn (h.run pins s σ H (fun y H1 => ∃ m1 S1 v, Bs Z W PX r σ m1 S1 H1 ∧ Grow m H m1 H1 ∧ RV Z.K H1 m1 v y ∧ RI v S1 P) I (mkI b h0 fun v S1 m1 H1 x1 q g1 b1 r1 => ⟨m1, S1, v, b1, g1, r1, q⟩)) fun u s1 ⟨y, H1, I1, ru, m1, S1, v, b1, g1, r1, q⟩ => ?_
  cases v with
  | exn _ _ => exact q.elim
  | tup l =>
    simp only [RV] at r1
    obtain ⟨a, xs, rfl, hs, rs⟩ := r1
    cases ru
    obtain ⟨its, rv, p, hz⟩ := I1.tuple (show SqT X.K H1 a xs by rw [g.hK]; exact hs)
    refine wpAny_pyIter_tuple (show s1.heap.IsTuple a its.toArray from p) (pi_one (tk := s1.toks) I1 _ (turn_tuple a _) ⟨_, Heap.get?_push_size _ rfl, rfl, rfl⟩ ?_)
    exact k _ _ _ _ _ _ q g1 b1.rep (by rw [g.hK]; exact wk_tup b1.rep hs rs (by rw [rs.len, ← sz]; exact hz))
  | obj n =>
    simp only [RV] at r1
    obtain ⟨a, ha, rfl⟩ := r1
    obtain ⟨l, e1, q⟩ := q
    obtain ⟨xs, hs, rs⟩ := b1.rep.rd e1 ha
    cases ru
    obtain ⟨its, rv, p, hz⟩ := I1.list (show SqL X.K H1 a xs by rw [g.hK]; exact hs)
    refine wpAny_pyIter_list p.isList (pi_one (tk := s1.toks) I1 _ (turn_list a _) ⟨_, Heap.get?_push_size _ rfl, rfl, rfl⟩ ?_)
    exact k _ _ _ _ _ _ q g1 b1.rep (by rw [g.hK]; exact wk_list ha (by rw [rs.len, ← sz]; exact hz))
  | str z =>
    simp only [RV] at r1
    subst r1
    obtain ⟨t, rfl⟩ := ru
    have q2 : R (Its z) H1 := k _ _ _ _ _ _ q.2 g1 b1.rep (wk_str q.1)
    cases ha : z.cps.all (· < 128)
    · exact wpAny_pyIter_wide ha (pi_one (tk := s1.toks) I1 _ (turn_str _ z t "str_iterator" (.inr rfl)) ⟨_, Heap.get?_push_size _ rfl, rfl, rfl⟩ q2)
    · exact wpAny_pyIter_ascii ha (pi_one (tk := s1.toks) I1 _ (turn_str _ z t "str_ascii_iterator" (.inl rfl)) ⟨_, Heap.get?_push_size _ rfl, rfl, rfl⟩ q2)
  | non => exact q.elim
  | bl _ => exact q.elim
  | int _ => exact q.elim
theorem isTup_eq {e : Expr} (h : isTupT e = true) : ∃ l k p, e = .Tuple l k p := by
  unfold isTupT at h
  obtain ⟨l, e1⟩ := Option.isSome_iff_exists.mp h
  obtain ⟨k, p, e2⟩ := vTup_eq e1
  exact ⟨l, k, p, e2⟩
theorem sd_rng1 (g : Good Z C W F N sc X) {a : E} {x : Expr} (h : chkI F N sc (.rng1 a) x = true) (ha : ∀ y, chk F N sc a y = true → PE X y (tI Z W (ev C a))) : PI X tg x (tIt Z W (evI C (.rng1 a))) ∧ okX x = true := by
  obtain ⟨⟨n, es⟩, h1, h2⟩ := anyS h
  obtain ⟨h2, h8⟩ := and2 h2
  obtain ⟨e1, gl, hm, d1, d3⟩ := biC_ok g h2
  obtain ⟨p, q, rfl⟩ := vCall_eq h1
  refine ⟨?_, rfl⟩
  dsimp only at h8 e1 gl hm
  subst e1
  split at h8
  · refine PIi (pi_range1 gl hm (pa_cons (ha _ h8) pa_nil (star_ok (chk_ok h8) _ _)) (star_ok (chk_ok h8) _ _)) fun σ H R ⟨m, S, r, P, PX, b, h, k⟩ => ?_
    simp only [evI] at h
    refine mkI b h fun v S1 m1 H1 x1 ⟨i, e, o, q⟩ g1 b1 r1 => ?_
    subst e
    simp only [RV] at r1
    subst r1
    unfold rgOk at o
    exact ⟨i, rfl, by omega, by omega, k _ _ _ _ _ _ q g1 b1.rep (wk_rng (by omega))⟩
  · cases h8
theorem sd_rng2 (g : Good Z C W F N sc X) {a b : E} {x : Expr} (h : chkI F N sc (.rng2 a b) x = true) (ha : ∀ y, chk F N sc a y = true → PE X y (tI Z W (ev C a))) (hb : ∀ y, chk F N sc b y = true → PE X y (tI Z W (ev C b))) :
    PI X tg x (tIt Z W (evI C (.rng2 a b))) ∧ okX x = true := by
  obtain ⟨⟨n, es⟩, h1, h2⟩ := anyS h
  obtain ⟨h2, h8⟩ := and2 h2
  obtain ⟨e1, gl, hm, d1, d3⟩ := biC_ok g h2
  obtain ⟨p, q, rfl⟩ := vCall_eq h1
  refine ⟨?_, rfl⟩
  dsimp only at h8 e1 gl hm
  subst e1
  split at h8
  · obtain ⟨h9, h10⟩ := and2 h8
    have s1 := fun r => star_ok (chk_ok h9) r X.env
    have s2 := fun r => star_ok (chk_ok h10) r X.env
    refine PIi (pi_range2 gl hm (pa_cons (ha _ h9) (pa_cons (hb _ h10) pa_nil (s2 _)) (s1 _)) (by rw [s1, s2]; rfl) (by rw [s2]; rfl)) fun σ H R ⟨m, S, r, P, PX, b, h, k⟩ => ?_
    simp only [evI] at h
    refine mkI b h fun v S1 m1 H1 x1 q1 g1 b1 r1 => mkI b1 q1 fun u S2 m2 H2 x2 ⟨i, j, e1, e2, o1, o2, q⟩ g2 b2 r2 => ?_
    subst e1 e2
    simp only [RV] at r1 r2
    subst r1 r2
    unfold rgOk at o1 o2
    exact ⟨i, j, rfl, ⟨by omega, by omega, by omega, by omega⟩, k _ _ _ _ _ _ q (g1.trans g2) b2.rep (wk_rng (by omega))⟩
  · cases h8
theorem sd_rng3 (g : Good Z C W F N sc X) {a b c : E} {x : Expr} (h : chkI F N sc (.rng3 a b c) x = true) (ha : ∀ y, chk F N sc a y = true → PE X y (tI Z W (ev C a))) (hb : ∀ y, chk F N sc b y = true → PE X y (tI Z W (ev C b)))
    (hc : ∀ y, chk F N sc c y = true → PE X y (tI Z W (ev C c))) : PI X tg x (tIt Z W (evI C (.rng3 a b c))) ∧ okX x = true := by
  obtain ⟨⟨n, es⟩, h1, h2⟩ := anyS h
  obtain ⟨h2, h8⟩ := and2 h2
  obtain ⟨e1, gl, hm, d1, d3⟩ := biC_ok g h2
  obtain ⟨p, q, rfl⟩ := vCall_eq h1
  refine ⟨?_, rfl⟩
  dsimp only at h8 e1 gl hm
  subst e1
  split at h8
  · obtain ⟨h9, h11⟩ := and2 h8
    obtain ⟨h9, h10⟩ := and2 h9
    have s1 := fun r => star_ok (chk_ok h9) r X.env
    have s2 := fun r => star_ok (chk_ok h10) r X.env
    have s3 := fun r => star_ok (chk_ok h11) r X.env
    refine PIi (pi_range3 gl hm (pa_cons (ha _ h9) (pa_cons (hb _ h10) (pa_cons (hc _ h11) pa_nil (s3 _)) (s2 _)) (s1 _)) (s1 _)
      (stars_no _ _ fun x hx => by simp at hx; rcases hx with rfl | rfl; exact chk_ok h10; exact chk_ok h11)) fun σ H R ⟨m, S, r, P, PX, b, h, k⟩ => ?_
    simp only [evI] at h
    refine mkI b h fun v S1 m1 H1 x1 q1 g1 b1 r1 => mkI b1 q1 fun u S2 m2 H2 x2 q2 g2 b2 r2 => mkI b2 q2 fun w S3 m3 H3 x3 ⟨i, j, c, e1, e2, e3, o1, o2, hc, o3, q⟩ g3 b3 r3 => ?_
    subst e1 e2 e3
    simp only [RV] at r1 r2 r3
    subst r1 r2 r3
    exact ⟨i, j, c, _, rfl, rgC_of o1 o2 o3 hc, k _ _ _ _ _ _ q (g1.trans (g2.trans g3)) b3.rep (wk_rngC (by have := (rgN_le o1 o2 hc).2; omega))⟩
  · cases h8
theorem sd_enum (g : Good Z C W F N sc X) (ht : isTupT tg = true) {a : E} {x : Expr} (h : chkI F N sc (.enum a) x = true) (ha : ∀ y, chk F N sc a y = true → PE X y (tI Z W (ev C a))) : PI X tg x (tIt Z W (evI C (.enum a))) ∧ okX x = true := by
  obtain ⟨tl, tk, tp, rfl⟩ := isTup_eq ht
  obtain ⟨⟨n, es⟩, h1, h2⟩ := anyS h
  obtain ⟨h2, h8⟩ := and2 h2
  obtain ⟨e1, gl, hm, d1, d3⟩ := biC_ok g h2
  obtain ⟨p, q, rfl⟩ := vCall_eq h1
  refine ⟨?_, rfl⟩
  dsimp only at h8 e1 gl hm
  subst e1
  split at h8
  · refine PIi (RE.pi_enum2 gl hm (pa_cons (ha _ h8) pa_nil (star_ok (chk_ok h8) _ _)) (star_ok (chk_ok h8) _ _)) fun σ H R ⟨m, S, r, P, PX, b, h, k⟩ => ?_
    simp only [evI] at h
    refine mkI b h fun v S1 m1 H1 x1 q g1 b1 r1 => ?_
    cases v with
    | tup l =>
      obtain ⟨hl, q⟩ := q
      simp only [RV] at r1
      obtain ⟨a, xs, rfl, hs, rs⟩ := r1
      exact ⟨a, xs, rfl, .inr ⟨by rw [g.hK]; exact hs, by rw [g.hK]; exact k _ _ _ _ _ _ q g1 b1.rep (wk_enumT b1.rep hs rs hl)⟩⟩
    | obj n =>
      obtain ⟨l, e, hl, q⟩ := q
      simp only [RV] at r1
      obtain ⟨a, ha, rfl⟩ := r1
      obtain ⟨xs, hs, rs⟩ := b1.rep.rd e ha
      exact ⟨a, xs, rfl, .inl ⟨by rw [g.hK]; exact hs, by rw [g.hK]; exact k _ _ _ _ _ _ q g1 b1.rep (wk_enum ha hl)⟩⟩
    | _ => exact q.elim
  · cases h8
/-- the keys, the pairs of a dict with tuples as keys -/
theorem wk_tkeys {m : List Addr} {S : Sto} {H : Hp} {n : Nat} {l : List (List Int × Val)} {ob : PySem.Obj} {a : Addr} {xs : List TD.Row} (R0 : Rep Z m S H) (ha : m[n]? = some a) (T : TD.TDict Z.K H ob a xs) (tr : TR Z.K H m l xs) :
    Wk Z (l.map fun p => tupI p.1) (fun S' => S'[n]? = some (.dtu l ob)) m H (TD.ItK a ob xs) := by
  have hl : (l.map fun p => tupI p.1).length = xs.length := by rw [List.length_map, tr.len]
  refine ⟨by rw [hl]; have := T.sz; rw [sz] at this; exact this, fun H1 => H1 a = some (TD.pin a ob), fun i H1 x H2 => H2 = H1 ∧ ∃ y, xs[i]? = some y ∧ x = .ref y.2.1, ⟨fun i H1 hi q => ⟨q, by rw [hl] at hi; exact hi⟩, fun H1 q => ⟨q, by rw [hl]; exact Nat.le_refl _⟩, fun i H1 x H2 _ _ y => y⟩, ?_, ?_⟩
  · intro m1 S1 H1 g R hg
    obtain ⟨ys, h1, _⟩ := R.ob n _ a hg (g.get ha)
    exact h1
  · intro i v m1 S1 H1 x H2 hv g R hg hy
    obtain ⟨e, y, e1, rfl⟩ := hy
    subst e
    refine ⟨Grow.refl, R, ?_⟩
    rw [List.getElem?_map] at hv
    obtain ⟨p, hp, rfl⟩ := Option.map_eq_some_iff.mp hv
    obtain ⟨q, eq, ek⟩ := tr.get hp
    rw [e1] at eq
    cases eq
    rw [← ek]
    exact tupI_V (R0.tup_keep g (T.ky y (List.mem_of_getElem? e1)))
theorem wk_titems {m : List Addr} {S : Sto} {H : Hp} {n : Nat} {l : List (List Int × Val)} {ob : PySem.Obj} {a : Addr} {xs : List TD.Row} {vs : List V} (R0 : Rep Z m S H) (ha : m[n]? = some a) (T : TD.TDict Z.K H ob a xs) (tr : TR Z.K H m l xs) (rv : RVs Z.K H m (l.map (·.2)) vs) :
    Wk Z (l.map fun p => .tup [tupI p.1, p.2]) (fun S' => S'[n]? = some (.dtu l ob)) m H (TD.ItI a ob xs vs) := by
  have hl : (l.map fun p => Val.tup [tupI p.1, p.2]).length = xs.length := by rw [List.length_map, tr.len]
  refine ⟨by rw [hl]; have := T.sz; rw [sz] at this; exact this, fun H1 => H1 a = some (TD.pin a ob), fun i H1 x H2 => ∃ T y v, xs[i]? = some y ∧ vs[i]? = some v ∧ x = .ref T ∧ H1 T = none ∧ H2 = upd H1 T (.tup [.ref y.2.1, v]), ⟨fun i H1 hi q => ⟨q, by rw [hl] at hi; exact hi⟩, fun H1 q => ⟨q, by rw [hl]; exact Nat.le_refl _⟩, fun i H1 x H2 _ _ y => y⟩, ?_, ?_⟩
  · intro m1 S1 H1 g R hg
    obtain ⟨ys, h1, _⟩ := R.ob n _ a hg (g.get ha)
    exact h1
  · intro i v m1 S1 H1 x H2 hv g R hg hy
    obtain ⟨T', y, w, e1, e2, rfl, hT, rfl⟩ := hy
    rw [List.getElem?_map] at hv
    obtain ⟨p, hp, rfl⟩ := Option.map_eq_some_iff.mp hv
    obtain ⟨q, eq, ek⟩ := tr.get hp
    rw [e1] at eq
    cases eq
    have hp2 : (l.map (·.2))[i]? = some p.2 := by rw [List.getElem?_map, hp]; rfl
    obtain ⟨x', f1, f2⟩ := rv.get hp2
    rw [e2] at f1
    cases f1
    rw [← ek]
    exact new_pair R hT (tupI_V (R0.tup_keep g (T.ky y (List.mem_of_getElem? e1)))) (RV.grow R0 g _ _ f2)
theorem obT {Z : Zt} {m : List Addr} {S : Sto} {H : Hp} (R : Rep Z m S H) {n : Nat} {l : List (List Int × Val)} {ob : PySem.Obj} {a : Addr} (h : S[n]? = some (.dtu l ob)) (ha : m[n]? = some a) : ∃ xs, H a = some (TD.pin a ob) ∧ TD.TDict Z.K H ob a xs ∧ TR Z.K H m l xs := R.ob n _ a h ha
theorem sd_dkeys (g : Good Z C W F N sc X) {e : E} {x : Expr} (ha : PE X x (tI Z W (ev C e))) : PI X tg x (tIt Z W (evI C (.dkeys e))) := by
  refine PIi (TD.pi_tkeys ha) fun σ H R ⟨m, S, r, P, PX, b, h, k⟩ => ?_
  simp only [evI] at h
  refine mkI b h fun v S1 m1 H1 x1 ⟨n, l, ob, e1, e2, q⟩ g1 b1 r1 => ?_
  subst e1
  simp only [RV] at r1
  obtain ⟨a, hm, rfl⟩ := r1
  obtain ⟨xs, h1, T, tr⟩ := obT b1.rep e2 hm
  exact ⟨a, ob, xs, rfl, h1, by rw [g.hK]; exact T, k _ _ _ _ _ _ q g1 b1.rep (wk_tkeys b1.rep hm T tr)⟩
theorem sd_ditems (g : Good Z C W F N sc X) (ht : isTupT tg = true) {e : E} {x : Expr} (h : chkI F N sc (.ditems e) x = true) (ha : ∀ y, chk F N sc e y = true → PE X y (tI Z W (ev C e))) : PI X tg x (tIt Z W (evI C (.ditems e))) ∧ okX x = true := by
  obtain ⟨tl, tk, tp, rfl⟩ := isTup_eq ht
  obtain ⟨⟨y, n2, es2, ln⟩, h3, h4⟩ := anyS h
  obtain ⟨h4, h9⟩ := and2 h4
  obtain ⟨h4, h10⟩ := and2 h4
  obtain ⟨h4, h11⟩ := and2 h4
  obtain ⟨h4, h12⟩ := and2 h4
  obtain ⟨p2, q2, rfl, hln⟩ := vMet_eq h3
  dsimp only at *
  have e3 : n2 = Str.ofString "items" := of_decide_eq_true h4
  have hl : (p2.endLine == q2.line) = true := by rw [← hln]; exact h12
  have e4 : es2 = [] := List.isEmpty_iff.mp h11
  have base := attr_ok (n := n2) (env := X.env) (chk_ok h9) (by simpa using h10)
  subst e3 e4
  refine ⟨PIi (TD.pi_titems (ha _ h9) base hl) fun σ H R ⟨m, S, r, P, PX, b, h, k⟩ => ?_, rfl⟩
  simp only [evI] at h
  refine mkI b h fun v S1 m1 H1 x1 ⟨n, l, ob, e1, e2, q⟩ g1 b1 r1 => ?_
  subst e1
  simp only [RV] at r1
  obtain ⟨a, hm, rfl⟩ := r1
  obtain ⟨xs, h1, T, tr⟩ := obT b1.rep e2 hm
  obtain ⟨vs, v1, v2, v3⟩ := tr.vals
  exact ⟨a, ob, xs, vs, rfl, h1, by rw [g.hK]; exact T, v3, k _ _ _ _ _ _ q g1 b1.rep (wk_titems b1.rep hm T tr v1)⟩
/-- the keys, the values of a dict with whole numbers as keys -/
theorem DRget {K : PySem.W.Frag} {H : Hp} {m : List Addr} : ∀ {l : List (Ky × Val)} {ks : List (L2.Key × V)} {i : Nat} {p : Ky × Val}, DR K H m l ks → l[i]? = some p → ∃ q, ks[i]? = some q ∧ q.1 = p.1 ∧ RV K H m p.2 q.2
  | [], _, i, p, h, e => by simp at e
  | y :: l, _, i, p, ⟨q, r, e1, h1, h2, h3⟩, e => by
    subst e1
    cases i with
    | zero =>
      cases e
      exact ⟨q, rfl, h1, h2⟩
    | succ i =>
      obtain ⟨q', a, b, c⟩ := DRget h3 (show l[i]? = some p by simpa using e)
      exact ⟨q', by simpa using a, b, c⟩
theorem wk_kkeys {m : List Addr} {S : Sto} {H : Hp} {n : Nat} {l : List (Ky × Val)} {ob : PySem.Obj} {a : Addr} {ks : List (L2.Key × V)} (R0 : Rep Z m S H) (ha : m[n]? = some a) (T : KD.KDict ob a ks) (tr : DR Z.K H m l ks) :
    Wk Z (l.map fun p => keyL p.1) (fun S' => S'[n]? = some (.dki l ob)) m H (KD.ItK a ob ks) := by
  have hl : (l.map fun p => keyL p.1).length = ks.length := by rw [List.length_map, tr.len]
  refine ⟨by rw [hl]; have := T.sz; rw [sz] at this; exact this, fun H1 => H1 a = some (TD.pin a ob), fun i H1 x H2 => H2 = H1 ∧ ∃ k v, ks[i]? = some (k, v) ∧ x = kV k, ⟨fun i H1 hi q => ⟨q, by rw [hl] at hi; exact hi⟩, fun H1 q => ⟨q, by rw [hl]; exact Nat.le_refl _⟩, fun i H1 x H2 _ _ y => y⟩, ?_, ?_⟩
  · intro m1 S1 H1 g R hg
    obtain ⟨ys, h1, _⟩ := R.ob n _ a hg (g.get ha)
    exact h1
  · intro i v m1 S1 H1 x H2 hv g R hg hy
    obtain ⟨e, k, w, e1, rfl⟩ := hy
    subst e
    refine ⟨Grow.refl, R, ?_⟩
    rw [List.getElem?_map] at hv
    obtain ⟨p, hp, rfl⟩ := Option.map_eq_some_iff.mp hv
    obtain ⟨q, eq, ek, _⟩ := DRget tr hp
    rw [e1] at eq
    cases eq
    dsimp only at ek
    rw [← ek]
    cases k with
    | inl i => simp only [keyL, RV, kV]
    | inr y => simp only [keyL, RV, kV]
theorem wk_kvals {m : List Addr} {S : Sto} {H : Hp} {n : Nat} {l : List (Ky × Val)} {ob : PySem.Obj} {a : Addr} {ks : List (L2.Key × V)} (R0 : Rep Z m S H) (ha : m[n]? = some a) (T : KD.KDict ob a ks) (tr : DR Z.K H m l ks) :
    Wk Z (l.map fun p => p.2) (fun S' => S'[n]? = some (.dki l ob)) m H (KD.ItV a ob ks) := by
  have hl : (l.map fun p => p.2).length = ks.length := by rw [List.length_map, tr.len]
  refine ⟨by rw [hl]; have := T.sz; rw [sz] at this; exact this, fun H1 => H1 a = some (TD.pin a ob), fun i H1 x H2 => H2 = H1 ∧ ∃ k, ks[i]? = some (k, x), ⟨fun i H1 hi q => ⟨q, by rw [hl] at hi; exact hi⟩, fun H1 q => ⟨q, by rw [hl]; exact Nat.le_refl _⟩, fun i H1 x H2 _ _ y => y⟩, ?_, ?_⟩
  · intro m1 S1 H1 g R hg
    obtain ⟨ys, h1, _⟩ := R.ob n _ a hg (g.get ha)
    exact h1
  · intro i v m1 S1 H1 x H2 hv g R hg hy
    obtain ⟨e, k, e1⟩ := hy
    subst e
    refine ⟨Grow.refl, R, ?_⟩
    rw [List.getElem?_map] at hv
    obtain ⟨p, hp, rfl⟩ := Option.map_eq_some_iff.mp hv
    obtain ⟨q, eq, ek, rq⟩ := DRget tr hp
    rw [e1] at eq
    cases eq
    exact RV.grow R0 g _ _ rq
theorem obK {Z : Zt} {m : List Addr} {S : Sto} {H : Hp} (R : Rep Z m S H) {n : Nat} {l : List (Ky × Val)} {ob : PySem.Obj} {a : Addr} (h : S[n]? = some (.dki l ob)) (ha : m[n]? = some a) : ∃ ks, H a = some (TD.pin a ob) ∧ KD.KDict ob a ks ∧ DR Z.K H m l ks := R.ob n _ a h ha
theorem sd_kkeys (g : Good Z C W F N sc X) {e : E} {x : Expr} (ha : PE X x (tI Z W (ev C e))) : PI X tg x (tIt Z W (evI C (.kkeys e))) := by
  refine PIi (KD.pi_kkeys ha) fun σ H R ⟨m, S, r, P, PX, b, h, k⟩ => ?_
  simp only [evI] at h
  refine mkI b h fun v S1 m1 H1 x1 ⟨n, l, ob, e1, e2, q⟩ g1 b1 r1 => ?_
  subst e1
  simp only [RV] at r1
  obtain ⟨a, hm, rfl⟩ := r1
  obtain ⟨ks, h1, T, tr⟩ := obK b1.rep e2 hm
  exact ⟨a, ob, ks, rfl, h1, T, k _ _ _ _ _ _ q g1 b1.rep (wk_kkeys b1.rep hm T tr)⟩
theorem sd_kvals (g : Good Z C W F N sc X) {e : E} {x : Expr} (h : chkI F N sc (.kvals e) x = true) (ha : ∀ y, chk F N sc e y = true → PE X y (tI Z W (ev C e))) : PI X tg x (tIt Z W (evI C (.kvals e))) ∧ okX x = true := by
  obtain ⟨⟨y, n2, es2, ln⟩, h3, h4⟩ := anyS h
  obtain ⟨h4, h9⟩ := and2 h4
  obtain ⟨h4, h10⟩ := and2 h4
  obtain ⟨h4, h11⟩ := and2 h4
  obtain ⟨h4, h12⟩ := and2 h4
  obtain ⟨p2, q2, rfl, hln⟩ := vMet_eq h3
  dsimp only at *
  have e3 : n2 = Str.ofString "values" := of_decide_eq_true h4
  have hl : (p2.endLine == q2.line) = true := by rw [← hln]; exact h12
  have e4 : es2 = [] := List.isEmpty_iff.mp h11
  have base := attr_ok (n := n2) (env := X.env) (chk_ok h9) (by simpa using h10)
  subst e3 e4
  refine ⟨PIi (KD.pi_kvals (ha _ h9) base hl) fun σ H R ⟨m, S, r, P, PX, b, h, k⟩ => ?_, rfl⟩
  simp only [evI] at h
  refine mkI b h fun v S1 m1 H1 x1 ⟨n, l, ob, e1, e2, q⟩ g1 b1 r1 => ?_
  subst e1
  simp only [RV] at r1
  obtain ⟨a, hm, rfl⟩ := r1
  obtain ⟨ks, h1, T, tr⟩ := obK b1.rep e2 hm
  exact ⟨a, ob, ks, rfl, h1, T, k _ _ _ _ _ _ q g1 b1.rep (wk_kvals b1.rep hm T tr)⟩
theorem sd_zip (g : Good Z C W F N sc X) (ht : isTupT tg = true) {a b : E} {x : Expr} (h : chkI F N sc (.zip a b) x = true) (ha : ∀ y, chk F N sc a y = true → PE X y (tI Z W (ev C a))) (hb : ∀ y, chk F N sc b y = true → PE X y (tI Z W (ev C b))) :
    PI X tg x (tIt Z W (evI C (.zip a b))) ∧ okX x = true := by
  obtain ⟨tl, tk, tp, rfl⟩ := isTup_eq ht
  obtain ⟨⟨n, es⟩, h1, h2⟩ := anyS h
  obtain ⟨h2, h8⟩ := and2 h2
  obtain ⟨e1, gl, hm, d1, d3⟩ := biC_ok g h2
  obtain ⟨p, q, rfl⟩ := vCall_eq h1
  refine ⟨?_, rfl⟩
  dsimp only at h8 e1 gl hm
  subst e1
  split at h8
  · obtain ⟨h9, h10⟩ := and2 h8
    have s1 := fun r => star_ok (chk_ok h9) r X.env
    have s2 := fun r => star_ok (chk_ok h10) r X.env
    refine PIi (RE.pi_zip2 gl hm (pa_cons (ha _ h9) (pa_cons (hb _ h10) pa_nil (s2 _)) (s1 _)) (s1 _) (stars_no _ _ fun x hx => by simp at hx; rw [hx]; exact chk_ok h10)) fun σ H R ⟨m, S, r, P, PX, b, h, k⟩ => ?_
    simp only [evI] at h
    refine mkI b h fun v S1 m1 H1 x1 q1 g1 b1 r1 => mkI b1 q1 fun u S2 m2 H2 x2 q g2 b2 r2 => ?_
    have r1' := RV.grow b1.rep g2 _ _ r1
    have done : ∀ {bb cc : Bool} {l l2 : List Val} {ga gb gg : Sto → Prop} {aa dd : Addr} {xs ys : List V}, Side Z bb m2 H2 aa l ga → Side Z cc m2 H2 dd l2 gb → RE.Sq bb Z.K H2 aa xs → RE.Sq cc Z.K H2 dd ys → (∀ S, gg S → ga S ∧ gb S) → l.length ≤ 16777216 → P (zipV l l2) gg S2 →
        ∃ a d b c xs ys, [V.ref aa, V.ref dd] = [.ref a, .ref d] ∧ RE.Sq b X.K H2 a xs ∧ RE.Sq c X.K H2 d ys ∧ R (RE.Itz2 b c X.K a d) H2 := by
      intro bb cc l l2 ga gb gg aa dd xs ys p1 p2 q1 q2 hgg hl hp
      rw [g.hK]
      exact ⟨aa, dd, bb, cc, xs, ys, rfl, q1, q2, k _ _ _ _ _ _ hp (g1.trans g2) b2.rep (wk_zip2 p1 p2 hgg hl)⟩
    split at q
    · obtain ⟨hl, q⟩ := q
      simp only [RV] at r1' r2
      obtain ⟨a, xs, rfl, hs, rs⟩ := r1'
      obtain ⟨c, ys, rfl, hs2, rs2⟩ := r2
      exact done (side_tup b2.rep hs rs) (side_tup b2.rep hs2 rs2) hs hs2 (fun _ _ => ⟨trivial, trivial⟩) hl q
    · obtain ⟨l, l2, e1, e2, hl, q⟩ := q
      simp only [RV] at r1' r2
      obtain ⟨a, ha, rfl⟩ := r1'
      obtain ⟨c, hc, rfl⟩ := r2
      obtain ⟨xs, hs, rs⟩ := b2.rep.rd e1 ha
      obtain ⟨ys, hs2, rs2⟩ := b2.rep.rd e2 hc
      exact done (side_lst ha) (side_lst hc) hs hs2 (fun _ z => z) hl q
    · obtain ⟨l2, e2, hl, q⟩ := q
      simp only [RV] at r1' r2
      obtain ⟨a, xs, rfl, hs, rs⟩ := r1'
      obtain ⟨c, hc, rfl⟩ := r2
      obtain ⟨ys, hs2, rs2⟩ := b2.rep.rd e2 hc
      exact done (side_tup b2.rep hs rs) (side_lst hc) hs hs2 (fun _ z => ⟨trivial, z⟩) hl q
    · obtain ⟨l, e1, hl, q⟩ := q
      simp only [RV] at r1' r2
      obtain ⟨a, ha, rfl⟩ := r1'
      obtain ⟨c, ys, rfl, hs2, rs2⟩ := r2
      obtain ⟨xs, hs, rs⟩ := b2.rep.rd e1 ha
      exact done (side_lst ha) (side_tup b2.rep hs2 rs2) hs hs2 (fun _ z => ⟨z, trivial⟩) hl q
    · exact q.elim
  · cases h8
theorem sd_rev (g : Good Z C W F N sc X) {a : E} {x : Expr} (h : chkI F N sc (.rev a) x = true) (ha : ∀ y, chk F N sc a y = true → PE X y (tI Z W (ev C a))) : PI X tg x (tIt Z W (evI C (.rev a))) ∧ okX x = true := by
  obtain ⟨⟨n, es⟩, h1, h2⟩ := anyS h
  obtain ⟨h2, h8⟩ := and2 h2
  obtain ⟨e1, gl, hm, d1, d3⟩ := biC_ok g h2
  obtain ⟨p, q, rfl⟩ := vCall_eq h1
  refine ⟨?_, rfl⟩
  dsimp only at h8 e1 gl hm
  subst e1
  split at h8
  · refine PIi (RT.pi_revA gl hm (ha _ h8) (star_ok (chk_ok h8) _ _)) fun σ H R ⟨m, S, r, P, PX, b, h, k⟩ => ?_
    simp only [evI] at h
    refine mkI b h fun v S1 m1 H1 x1 q g1 b1 r1 => ?_
    cases v with
    | tup l =>
      obtain ⟨hl, q⟩ := q
      simp only [RV] at r1
      obtain ⟨a, xs, rfl, hs, rs⟩ := r1
      exact ⟨a, xs, rfl, .inr ⟨by rw [g.hK]; exact hs, by rw [g.hK]; exact k _ _ _ _ _ _ q g1 b1.rep (wk_revT b1.rep hs rs hl)⟩⟩
    | obj n =>
      obtain ⟨l, e, hl, q⟩ := q
      simp only [RV] at r1
      obtain ⟨a, ha, rfl⟩ := r1
      obtain ⟨xs, hs, rs⟩ := b1.rep.rd e ha
      exact ⟨a, xs, rfl, .inl ⟨by rw [g.hK]; exact hs, by rw [g.hK]; exact k _ _ _ _ _ _ q g1 b1.rep (wk_revL ha rs.len.symm hl)⟩⟩
    | _ => exact q.elim
  · cases h8
end
end Mp

set_option Elab.async false
set_option linter.all false
set_option maxRecDepth 100000
set_option autoImplicit false
set_option maxHeartbeats 2000000
/-! Mini14: comprehensions, and all expressions. -/
namespace Mp
open PySem PySem.Spec PyProof.Rows L2
/-! ### a list that the store does not see -/
mutual
theorem RV.off {K : PySem.W.Frag} {H : Hp} {m : List Addr} {D : Addr} {ys zs : List V} (hD : H D = some (.lst ys)) : ∀ (v : Val) (x : V), RV K H m v x → RV K (upd H D (.lst zs)) m v x
  | .non, _, h => h
  | .bl _, _, h => h
  | .int _, _, h => h
  | .str _, _, h => h
  | .tup l, x, h => by
    simp only [RV] at h ⊢
    obtain ⟨a, xs, e, hs, hr⟩ := h
    refine ⟨a, xs, e, ?_, RVs.off hD l xs hr⟩
    rcases hs with (h | ⟨o, h⟩) | h
    · exact .inl (.inl (by rw [upd_ne (fun q : a = D => by rw [q, hD] at h; cases h)]; exact h))
    · exact .inl (.inr ⟨o, by rw [upd_ne (fun q : a = D => by rw [q, hD] at h; cases h)]; exact h⟩)
    · exact .inr h
  | .exn _ _, _, h => h
  | .obj n, x, h => by
    simp only [RV] at h ⊢
    exact h
theorem RVs.off {K : PySem.W.Frag} {H : Hp} {m : List Addr} {D : Addr} {ys zs : List V} (hD : H D = some (.lst ys)) : ∀ (l : List Val) (xs : List V), RVs K H m l xs → RVs K (upd H D (.lst zs)) m l xs
  | [], _, h => h
  | v :: l, xs, h => by
    simp only [RVs] at h ⊢
    obtain ⟨x, r, e, h1, h2⟩ := h
    exact ⟨x, r, e, RV.off hD v x h1, RVs.off hD l r h2⟩
end
theorem Rep.off {Z : Zt} {m : List Addr} {S : Sto} {H : Hp} {D : Addr} {ys zs : List V} (R : Rep Z m S H) (hD : H D = some (.lst ys)) (hn : D ∉ m) : Rep Z m S (upd H D (.lst zs)) := by
  refine ⟨R.len, R.nd, fun n ob a e ea => ?_, tabs_keep R.tabs fun b u h nl _ => by rw [upd_ne (fun q : b = D => by rw [q, hD] at h; exact nl ys (Option.some.inj h).symm)]; exact h⟩
  have ne : a ≠ D := fun z => hn (z ▸ List.mem_of_getElem? ea)
  have q := R.ob n ob a e ea
  cases ob with
  | lst l =>
    obtain ⟨xs, h1, h2⟩ := q
    exact ⟨xs, by rw [upd_ne ne]; exact h1, RVs.off hD l xs h2⟩
  | frz l =>
    obtain ⟨u, xs, h1, h2⟩ := q
    exact ⟨u, xs, by rw [upd_ne ne]; exact h1, RVs.off hD l xs h2⟩
  | dic l => obtain ⟨ks, h1, h2⟩ := q; exact ⟨ks, by rw [upd_ne ne]; exact h1, h2.to (RV.off hD)⟩
  | dki l ob => obtain ⟨ks, h1, h2, h3⟩ := q; exact ⟨ks, by rw [upd_ne ne]; exact h1, h2, h3.to (RV.off hD)⟩
  | dtu l ob =>
    obtain ⟨xs, h1, h2, h3⟩ := q
    refine ⟨xs, by rw [upd_ne ne]; exact h1, h2.keep fun b ys hb => ?_, h3.to (RV.off hD)⟩
    rcases hb with (hb | ⟨o, hb⟩) | hb
    · exact .inl (.inl (by rw [upd_ne (fun z => by rw [z, hD] at hb; cases hb)]; exact hb))
    · exact .inl (.inr ⟨o, by rw [upd_ne (fun z => by rw [z, hD] at hb; cases hb)]; exact hb⟩)
    · exact .inr hb
  | ins c l => exact q
theorem Grow.not_in {m m' : List Addr} {H H' : Hp} (g : Grow m H m' H') {D : Addr} {o : HO} (h : H D = some o) (hn : D ∉ m) (ho : ∀ ps, o ≠ .tbl ps := by intro ps z; cases z) : D ∉ m' := by
  obtain ⟨n, e, f⟩ := g.ext
  rw [e]
  intro hd
  rcases List.mem_append.mp hd with z | z
  · exact hn z
  · obtain ⟨ps, e⟩ := f D z o h
    exact ho ps e
theorem Grow.off {m m' : List Addr} {H H' : Hp} (g : Grow m H m' H') {D : Addr} {o : HO} (h : H D = none) : Grow m H m' (upd H' D o) := by
  refine ⟨g.ext, fun a u e hm ht => ?_, fun a u e n => ?_⟩
  · rw [upd_ne (ne_of_none e h)]
    exact g.keep a u e hm ht
  · rw [upd_ne (ne_of_none e h)]
    exact g.dom a u e n
theorem Grow.adopt {m m' : List Addr} {H H' : Hp} (g : Grow m H m' H') {D : Addr} (h : H D = none) : Grow m H (m' ++ [D]) H' := by
  obtain ⟨n, e, f⟩ := g.ext
  refine ⟨⟨n ++ [D], by rw [e, List.append_assoc], fun a ha o ho => ?_⟩, g.keep, g.dom⟩
  rcases List.mem_append.mp ha with z | z
  · exact f a z o ho
  · simp at z; rw [z, h] at ho; cases ho
mutual
theorem RV.more {K : PySem.W.Frag} {H : Hp} {m : List Addr} (n : List Addr) : ∀ (v : Val) (x : V), RV K H m v x → RV K H (m ++ n) v x
  | .non, _, h => h
  | .bl _, _, h => h
  | .int _, _, h => h
  | .str _, _, h => h
  | .tup l, x, h => by
    simp only [RV] at h ⊢
    obtain ⟨a, xs, e, hs, hr⟩ := h
    exact ⟨a, xs, e, hs, RVs.more n l xs hr⟩
  | .exn _ _, _, h => h
  | .obj k, x, h => by
    simp only [RV] at h ⊢
    obtain ⟨a, e, ex⟩ := h
    exact ⟨a, by rw [List.getElem?_append_left (List.getElem?_eq_some_iff.mp e).1]; exact e, ex⟩
theorem RVs.more {K : PySem.W.Frag} {H : Hp} {m : List Addr} (n : List Addr) : ∀ (l : List Val) (xs : List V), RVs K H m l xs → RVs K H (m ++ n) l xs
  | [], _, h => h
  | v :: l, xs, h => by
    simp only [RVs] at h ⊢
    obtain ⟨x, r, e, h1, h2⟩ := h
    exact ⟨x, r, e, RV.more n v x h1, RVs.more n l r h2⟩
end
theorem Rep.adopt {Z : Zt} {m : List Addr} {S : Sto} {H : Hp} {D : Addr} {l : List Val} {xs : List V} (R : Rep Z m S H) (hD : H D = some (.lst xs)) (hn : D ∉ m) (r : RVs Z.K H m l xs) : Rep Z (m ++ [D]) (S ++ [.lst l]) H := by
  refine ⟨by rw [List.length_append, List.length_append, R.len]; rfl, ?_, fun n ob a e ea => ?_, R.tabs⟩
  · rw [List.nodup_append]
    refine ⟨R.nd, by simp, fun a ha b hb e => ?_⟩
    simp at hb
    rw [e, hb] at ha
    exact hn ha
  · by_cases hl : n < S.length
    · rw [List.getElem?_append_left hl] at e
      rw [List.getElem?_append_left (by rw [R.len]; exact hl)] at ea
      have q := R.ob n ob a e ea
      cases ob with
      | lst l => obtain ⟨xs, h1, h2⟩ := q; exact ⟨xs, h1, RVs.more _ _ _ h2⟩
      | frz l => obtain ⟨u, xs, h1, h2⟩ := q; exact ⟨u, xs, h1, RVs.more _ _ _ h2⟩
      | dic l => obtain ⟨ks, h1, h2⟩ := q; exact ⟨ks, h1, h2.to (RV.more _)⟩
      | dtu l ob => obtain ⟨ks, h1, h2, h3⟩ := q; exact ⟨ks, h1, h2, h3.to (RV.more _)⟩
      | dki l ob => obtain ⟨ks, h1, h2, h3⟩ := q; exact ⟨ks, h1, h2, h3.to (RV.more _)⟩
      | ins c l => exact q
    · have hn2 : n = S.length := by
        have := (List.getElem?_eq_some_iff.mp e).1
        rw [List.length_append] at this
        simp at this
        omega
      subst hn2
      rw [List.getElem?_append_right (Nat.le_refl _), Nat.sub_self] at e
      rw [List.getElem?_append_right (by rw [R.len]; exact Nat.le_refl _), R.len, Nat.sub_self] at ea
      simp at e ea
      subst e ea
      exact ⟨xs, hD, RVs.more _ _ _ r⟩
/-! ### the block's own names -/
theorem wipe_at (σ : L2.St) : ∀ (vs : List Nat) (i : Nat), (wipe σ vs)[i]? = if i ∈ vs then (σ[i]?).map (fun _ => none) else σ[i]?
  | [], i => by simp [wipe]
  | v :: vs, i => by
    unfold wipe
    rw [List.getElem?_set, wipe_length, wipe_at σ vs i]
    by_cases h : v = i
    · subst h
      rw [if_pos rfl, if_pos List.mem_cons_self]
      by_cases hl : v < σ.length
      · rw [if_pos hl, List.getElem?_eq_getElem hl]; rfl
      · rw [if_neg hl, List.getElem?_eq_none (by omega)]; rfl
    · rw [if_neg h]
      by_cases h2 : i ∈ vs
      · rw [if_pos h2, if_pos (List.mem_cons_of_mem _ h2)]
      · rw [if_neg h2, if_neg (fun q => by rcases List.mem_cons.mp q with q | q; exact h q.symm; exact h2 q)]
theorem wipe_same {σ σ' : L2.St} {own : List Nat} (h : Same own (wipe σ own) σ') : wipe σ' own = wipe σ own := by
  obtain ⟨hl, h⟩ := h
  rw [wipe_length] at hl
  apply List.ext_getElem?
  intro i
  rw [wipe_at, wipe_at]
  by_cases hi : i ∈ own
  · rw [if_pos hi, if_pos hi]
    by_cases hl2 : i < σ.length
    · rw [List.getElem?_eq_getElem hl2, List.getElem?_eq_getElem (by omega)]; rfl
    · rw [List.getElem?_eq_none (by omega), List.getElem?_eq_none (by omega)]
  · rw [if_neg hi, if_neg hi, h i hi, wipe_at, if_neg hi]
/-! ### comprehensions -/
def tC' (Z : Zt) (W : WX) (t : Mp.Env → Sto → (Bool → Sto → Prop) → QX → Prop) : TT := fun σ H Q => ∃ m S r P PX, Bs Z W PX r σ m S H ∧ t r S P PX ∧ ∀ k S' m' H', P k S' → Grow m H m' H' → Rep Z m' S' H' → Q k H'
abbrev lcStep (C : Call) (e : E) (tg : Tg) (c : Eo) (own : List Nat) (r : Mp.Env) : Val → Sto → (Option Val → Sto → Prop) → Prop := fun v S2 K => asgT tg v (wipeE r own) fun r2 => evc C c r2 S2 (fun k S3 => if k = true then ev C e r2 S3 (fun y S4 => K (some y) S4) (fun _ _ => False) else K none S3) (fun _ _ => False)
theorem lcL_g {g : Sto → Prop} {step : Val → Sto → (Option Val → Sto → Prop) → Prop} {K : List Val → Sto → Prop} : ∀ {l acc : List Val} {S : Sto}, lcL g step K l acc S → g S
  | [], _, _, h => h.1
  | _ :: _, _, _, h => h.1
section
variable {Z : Zt} {C : Call} {W : WX} {F : Facts} {N : List Str} {sc : Scope} {X : Cx}
theorem lc_pg (g : Good Z C W F N sc X) (hk2 : F.kind ≠ 2) {tg : Tg} {tgx : Expr} {scope : Scope} (htg : chkT N scope tg tgx = true) : ∀ (s : Shared) (H : Hp) (C : Addr) (cl : List (Str × Addr)) (fp : List Addr), PG (X.blk s H scope (compEnvC scope cl C X.env) fp) tgx (gT Z tg) := by
  intro s H A cl fp
  have gb := g.blk hk2 s H scope A cl fp
  refine sdT (N := N) (sc := scope) gb.hK (fun _ => gb.calm hk2) (by rw [gb.hN]; exact gb.nd) (fun i ee h => ?_) htg
  obtain ⟨x, h1, h2⟩ := anyS h
  obtain ⟨h2, h3⟩ := and2 h2
  obtain ⟨p, rfl⟩ := vName_eq h1
  refine ⟨x, p, rfl, by rw [gb.hN]; exact of_decide_eq_true h2, ?_, ?_⟩
  · rw [gb.hsc]
    rcases locB_l h3 with q | q
    · exact .inl (lookup_relS_keep (by decide) q)
    · exact .inr (lookup_relS_keep (by decide) q)
  · rw [gb.hsc]
    rcases locB_l h3 with q | q
    · exact .inr (lookup_relS_keep (by decide) q)
    · left
      show (List.lookup x scope.names == some NameKind.cell) = true
      rw [q]; rfl
theorem lc_read {e : E} {tg : Tg} {it : I} {c : Eo} {own : List Nat} (ho : ownIn own tg = true) (σ : L2.St) (H0 : Hp) (Q : VK) (q : tI Z W (ev C (.lc e tg it c own)) σ H0 Q) : tLc (tIt Z W (evI C it)) (gT Z tg) (tC' Z W0 (evc C c)) (tI Z W0 (ev C e)) own σ H0 Q := by
  obtain ⟨m, S, r, P, PX, b, h, k⟩ := q
  simp only [ev] at h
  refine ⟨m, S, r, _, PX, b, h, fun l gg S1 m1 H1 J hq g1 R1 wk D hD => ?_⟩
  obtain ⟨G, Y, hw, hG, hY⟩ := wk.ex
  have b1 := b.grow g1 R1
  refine lc_it hw (fun i H' => ∃ m2 S2 acc xs, Grow m1 H1 m2 H' ∧ Rep Z m2 S2 H' ∧ D ∉ m2 ∧ H' D = some (.lst xs) ∧ RVs Z.K H' m2 acc xs ∧ acc.length ≤ i ∧
    lcL gg (lcStep C e tg c own r) (fun acc S' => Mp.alloc (.lst acc) S' P) (l.drop i) acc S2) ?_ ?_ ?_ ?_
  · exact ⟨m1, S1, [], [], Grow.new hD, R1.new hD, R1.not_mem hD, upd_same, RVs.nil, Nat.le_refl _, hq⟩
  · rintro i H' _ ⟨m2, S2, acc, xs, g2, R2, _, _, _, _, hl⟩
    exact hG m2 S2 H' g2 R2 (lcL_g hl)
  · rintro i x H' H'' hi ⟨m2, S2, acc, xs, g2, R2, hn, hxs, rs, hal, hl⟩ hy
    have hd : l.drop i = l[i] :: l.drop (i + 1) := List.drop_eq_getElem_cons hi
    rw [hd] at hl
    obtain ⟨hgg, hl⟩ := hl
    obtain ⟨g3, R3, rx⟩ := hY i l[i] m2 S2 H' x H'' (List.getElem?_eq_getElem hi) g2 R2 hgg hy
    have hD3 : H'' D = some (.lst xs) := g3.keep D _ hxs hn (by simp)
    have re3 : RE Z H'' m2 (wipeE r own) (wipe σ own) := (b1.re.grow R1 (g2.trans g3)).wipe own
    refine ⟨m2, S2, wipeE r own, l[i], _, R3, re3, rx, hl, fun r' σ' hk re' hs => ⟨wipe_same (hs own ho), ?_⟩⟩
    have bb : Bs Z W0 (fun _ _ => False) r' σ' m2 S2 H'' := ⟨R3, re', fun _ _ _ _ _ _ q => q.elim⟩
    refine ⟨m2, S2, r', _, _, bb, hk, fun t S3 m3 H3 h3 g4 R4 => ?_⟩
    have hD4 : H3 D = some (.lst xs) := g4.keep D _ hD3 hn (by simp)
    have hn4 : D ∉ m3 := g4.not_in hD3 hn
    have rs4 : RVs Z.K H3 m3 acc xs := RVs.grow R2 (g3.trans g4) _ _ rs
    cases t with
    | false =>
      dsimp only at h3 ⊢
      rw [if_neg (by decide)] at h3 ⊢
      exact ⟨m3, S3, acc, xs, g2.trans (g3.trans g4), R4, hn4, hD4, rs4, Nat.le_succ_of_le hal, h3⟩
    | true =>
      dsimp only at h3 ⊢
      rw [if_pos rfl] at h3 ⊢
      refine mkI (bb.grow g4 R4) h3 fun y S4 m4 H4 x4 h4 g5 b4 ry => ?_
      have hD5 : H4 D = some (.lst xs) := g5.keep D _ hD4 hn4 (by simp)
      have hn5 : D ∉ m4 := g5.not_in hD4 hn4
      have rs5 : RVs Z.K H4 m4 acc xs := RVs.grow R4 g5 _ _ rs4
      refine ⟨xs, hD5, ?_, m4, S4, acc ++ [y], xs ++ [x4], ?_, b4.rep.off hD5 hn5, hn5, upd_same, RVs.app (RVs.off hD5 _ _ rs5) (RVs.cons (RV.off hD5 _ _ ry) RVs.nil), ?_, h4⟩
      · rw [sz, ← rs.len]
        have := wk.len
        omega
      · exact (g2.trans (g3.trans (g4.trans g5))).off hD
      · rw [List.length_append]
        simpa using hal
  · rintro H' ⟨m2, S2, acc, xs, g2, R2, hn, hxs, rs, hal, hl⟩
    rw [List.drop_length] at hl
    obtain ⟨_, hl⟩ := hl
    refine k _ _ _ _ _ hl (g1.trans (g2.adopt hD)) (R2.adopt hxs hn rs) ?_
    simp only [RV]
    exact ⟨D, by rw [← R2.len, List.getElem?_append_right (Nat.le_refl _), Nat.sub_self]; rfl, rfl⟩
theorem lc_own (own : List Nat) (N : List Str) : (own.map fun k => ((N[k]?).getD Str.empty, k)).map (·.2) = own := by
  rw [List.map_map]
  exact List.map_id _
theorem sd_lc (g : Good Z C W F N sc X) (hk2 : F.kind ≠ 2) {e : E} {tg : Tg} {it : I} {c : Eo} {own : List Nat} {elt tgx iter : Expr} {ifs : List Expr} {scope : Scope} {pos : Pos}
    (hb : blkC N sc scope (own.map fun k => ((N[k]?).getD Str.empty, k)) = true) (ho : ownIn own tg = true) (htg : chkT N scope tg tgx = true) (hi : PI X tgx iter (tIt Z W (evI C it))) (oi : okX iter = true)
    (hc : ∀ X', Good Z C W0 F N (relS scope sc) X' → PTs X' ifs (tC' Z W0 (evc C c))) (he : ∀ X', Good Z C W0 F N (relS scope sc) X' → PE X' elt (tI Z W0 (ev C e))) :
    PE X (.ListComp elt [⟨tgx, iter, ifs, 0⟩] scope pos) (tI Z W (ev C (.lc e tg it c own))) := by
  have bo : BlkOk X.N X.env.scope scope (own.map fun k => ((N[k]?).getD Str.empty, k)) := by rw [g.hN, g.hsc]; exact blkOk_by hb
  have hlc := pe_lc (pos := pos) (g.calm hk2) (by rw [g.hN]; exact g.nd) hi bo (lc_pg g hk2 htg) (fun s H A cl fp => hc _ (g.blk hk2 s H scope A cl fp)) (fun s H A cl fp => he _ (g.blk hk2 s H scope A cl fp)) (fun v => fold_ok oi X.env v)
  rw [lc_own] at hlc
  exact PEi hlc (lc_read ho)
end
end Mp

set_option Elab.async false
set_option linter.all false
set_option maxRecDepth 100000
set_option autoImplicit false
set_option maxHeartbeats 2000000
/-! Mini15: all expressions. -/
namespace Mp
open PySem PySem.Spec PyProof.Rows L2
theorem pt_pw {X : Cx} {x : Expr} {t : TT} (h : PW X x t) : PT X x t := ⟨fun pins s σ H Q I q => h.run _ pins s σ H Q I q⟩
section
variable {Z : Zt} {C : Call} {N : List Str}
def BoolR (X : Cx) (Z : Zt) (W : WX) (o : BoolOp) (xs : List Expr) (t : Mp.Env → Sto → QV → QX → Prop) : Prop := ∀ p, PE X (.BoolOp o xs p) (tI Z W t) ∧ PW X (.BoolOp o xs p) (tT Z W t)
theorem and1 {W : WX} {X : Cx} {e : E} {x : Expr} (h : PE X x (tI Z W (ev C e)) ∧ PT X x (tT Z W (ev C e))) : BoolR X Z W .And [x] (evA C (.cons e .nil)) := fun p =>
  ⟨PEi (pe_one h.1) fun σ H Q q => q, PWi (pw_and1 h.2) fun σ H Q q => q⟩
theorem or1 {W : WX} {X : Cx} {e : E} {x : Expr} (h : PE X x (tI Z W (ev C e)) ∧ PT X x (tT Z W (ev C e))) : BoolR X Z W .Or [x] (evO C (.cons e .nil)) := fun p =>
  ⟨PEi (pe_one h.1) fun σ H Q q => q, PWi (pw_or1 h.2) fun σ H Q q => q⟩
theorem and2' {F : Facts} {W : WX} {sc : Scope} {X : Cx} (g : Good Z C W F N sc X) {e e2 : E} {l : Es} {x y : Expr} {r : List Expr} (h : PE X x (tI Z W (ev C e)) ∧ PT X x (tT Z W (ev C e))) (k : BoolR X Z W .And (y :: r) (evA C (.cons e2 l))) :
    BoolR X Z W .And (x :: y :: r) (evA C (.cons e (.cons e2 l))) := fun p => by
  refine ⟨PEi (pe_andT h.1 (k p).1) fun σ H Q ⟨m, S, r, P, PX, b, h, k⟩ => ?_, PWi (pw_and h.2 (k p).2) fun σ H Q ⟨m, S, r, P, PX, b, h, k⟩ => ?_⟩
  · refine mkI (t := ev C e) b h fun v S1 m1 H1 x1 ⟨t, q0, q1⟩ g1 b1 r1 => ⟨t, by rw [g.hK]; exact truV_V b1.rep r1 q0, ?_⟩
    cases t with
    | true => rw [if_pos rfl] at q1 ⊢; exact ⟨m1, S1, r, P, PX, b1, q1, k.grow g1⟩
    | false => rw [if_neg (by decide)] at q1 ⊢; exact (k.grow g1).same b1.rep q1 r1
  · refine mkT (t := ev C e) b h fun v S1 m1 H1 ⟨t, q0, q1⟩ g1 b1 => ⟨t, q0, ?_⟩
    cases t with
    | true => rw [if_pos rfl] at q1 ⊢; exact ⟨m1, S1, r, P, PX, b1, q1, fun v S' m' H' p g R => k v S' m' H' p (g1.trans g) R⟩
    | false =>
      rw [if_neg (by decide)] at q1 ⊢
      obtain ⟨t2, h2, h3⟩ := k _ _ _ _ q1 g1 b1.rep
      rw [q0] at h2
      cases h2
      exact h3
theorem or2' {F : Facts} {W : WX} {sc : Scope} {X : Cx} (g : Good Z C W F N sc X) {e e2 : E} {l : Es} {x y : Expr} {r : List Expr} (h : PE X x (tI Z W (ev C e)) ∧ PT X x (tT Z W (ev C e))) (k : BoolR X Z W .Or (y :: r) (evO C (.cons e2 l))) :
    BoolR X Z W .Or (x :: y :: r) (evO C (.cons e (.cons e2 l))) := fun p => by
  refine ⟨PEi (pe_orT h.1 (k p).1) fun σ H Q ⟨m, S, r, P, PX, b, h, k⟩ => ?_, PWi (pw_or h.2 (k p).2) fun σ H Q ⟨m, S, r, P, PX, b, h, k⟩ => ?_⟩
  · refine mkI (t := ev C e) b h fun v S1 m1 H1 x1 ⟨t, q0, q1⟩ g1 b1 r1 => ⟨t, by rw [g.hK]; exact truV_V b1.rep r1 q0, ?_⟩
    cases t with
    | false => rw [if_neg (by decide)] at q1 ⊢; exact ⟨m1, S1, r, P, PX, b1, q1, k.grow g1⟩
    | true => rw [if_pos rfl] at q1 ⊢; exact (k.grow g1).same b1.rep q1 r1
  · refine mkT (t := ev C e) b h fun v S1 m1 H1 ⟨t, q0, q1⟩ g1 b1 => ⟨t, q0, ?_⟩
    cases t with
    | false => rw [if_neg (by decide)] at q1 ⊢; exact ⟨m1, S1, r, P, PX, b1, q1, fun v S' m' H' p g R => k v S' m' H' p (g1.trans g) R⟩
    | true =>
      rw [if_pos rfl] at q1 ⊢
      obtain ⟨t2, h2, h3⟩ := k _ _ _ _ q1 g1 b1.rep
      rw [q0] at h2
      cases h2
      exact h3
/-- _law_said(lambda: body) -/
theorem noPar_eq {ps : Arguments} (h : noPar ps = true) : ps = ⟨[], [], none, [], [], none, []⟩ := by
  unfold noPar at h
  split at h
  · rfl
  · cases h
theorem Grow.ofExtN {m : List Addr} {H H1 : Hp} (e : LamX.ExtN H H1) : Grow m H m H1 := by
  exact ⟨⟨[], by simp, by simp⟩, fun a o h _ hn => e a o h hn, fun a o h n => ⟨o, e a o h n, n⟩⟩
theorem Rep.ofExtN {Z : Zt} {m : List Addr} {S : Sto} {H H1 : Hp} (R : Rep Z m S H) (e : LamX.ExtN H H1) (t : LamX.Tabs Z.T H1) : Rep Z m S H1 := by
  have g : Grow m H m H1 := Grow.ofExtN e
  refine ⟨R.len, R.nd, fun n ob a h1 h2 => ?_, t, fun p hp => e _ _ (R.tabs.2 p hp) fun _ z => by cases z⟩
  have q := R.ob n ob a h1 h2
  cases ob with
  | lst l =>
    obtain ⟨xs, e1, e2⟩ := q
    exact ⟨xs, e _ _ e1 (fun _ z => by cases z), RVs.grow R g l xs e2⟩
  | frz l =>
    obtain ⟨u, xs, e1, e2⟩ := q
    exact ⟨u, xs, e _ _ e1 (fun _ z => by cases z), RVs.grow R g l xs e2⟩
  | dic l => obtain ⟨ks, e1, e2⟩ := q; exact ⟨ks, e _ _ e1 (fun _ z => by cases z), e2.to (RV.grow R g)⟩
  | dtu l ob => obtain ⟨ks, e1, e2, e3⟩ := q; exact ⟨ks, e _ _ e1 (fun _ z => by cases z), e2.keep fun b ys => R.tup_keep g, e3.to (RV.grow R g)⟩
  | dki l ob => obtain ⟨ks, e1, e2, e3⟩ := q; exact ⟨ks, e _ _ e1 (fun _ z => by cases z), e2, e3.to (RV.grow R g)⟩
  | ins c l => exact q
theorem Good.lamX {F : Facts} {W : WX} {sc : Scope} {X : Cx} (g : Good Z C W F N sc X) (h0 : F.kind = 0) {k : Nat} (hlow : ∀ f ∈ F.lows, ∃ a fd ps, FnG X.prog X.w X.K X.mg X.base false k a fd ps (spI Z C f) ∧ X.mg (Str.ofString f) = some (.ref a) ∧ PySem.W.keepIn X.K (.ref a) = true ∧ Binds X.K fd ps [] ∧ ∀ ds, (f, ds) ∈ F.dfs → DflR X.K fd ps ds)
    (A : Around) (outer : List PySem.Env) (s : Shared) (H : Hp) (E : XK) (scope : Scope) (f c' : Addr) (hr : Room k (A.deeper (LamX.lamEnv X scope s.heap.objs.size f c'))) : Good Z C (fun cls d _ H => E cls d H) F.low N scope (LamX.lamCx X A outer s H E scope f c') where
  hK := g.hK
  hmg := g.hmg
  hN := g.hN
  hsc := rfl
  nd := g.nd
  calm := fun _ => rfl
  gd := fun h => by cases h
  hu := by
    have := hr.un
    show (A.deeper _).units + 64 < cLine
    omega
  tk := takes_of (E₁ := fun e' s'' => L2.CX X.prog X.w outer H s E e' s'') rfl rfl rfl rfl
  fn := fun _ f hf => let ⟨a, fd, ps, h1, h2⟩ := hlow f hf; ⟨k, a, fd, ps, h1, hr, h2⟩
  cn := g.cn
  fr := g.fr
  xn := fun c hc => let ⟨hz, Cc, h⟩ := g.xn c hc; ⟨hz, Cc, h.mg, h.ex, h.kp, h.rs⟩
  cl := g.cl
  said := fun h => by cases h
  fnx := fun h => by cases h
  exn := fun h => by cases h
  fld := fun h => by cases h
  fv := fun _ => g.fv (by rw [h0]; decide)
  sm := fun _ => g.sm (by rw [h0]; decide)
  dc := fun _ => g.dc (by rw [h0]; decide)
theorem sd_said {F : Facts} {W : WX} {sc : Scope} {X : Cx} (g : Good Z C W F N sc X) {e : E} {ps : Arguments} {body : Expr} {scope : Scope} {p lpos pos : Pos} (h0 : F.kind = 0) (hl : F.lam = true) (hp : noPar ps = true) (L : LamX.LamS X.env.scope scope) (gl : Gl X (Str.ofString "_law_said"))
    (he : ∀ W' X', Good Z C W' F.low N scope X' → PE X' body (tI Z W' (ev C e))) : PE X (.Call (.Name (Str.ofString "_law_said") p) [.Lambda ps body scope lpos] [] pos) (tI Z W (ev C (.said e))) := by
  obtain ⟨k, hB, hlow⟩ := g.said h0 hl
  have hS := (hB X rfl rfl rfl rfl rfl rfl rfl rfl).1
  rw [noPar_eq hp]
  refine PEi (hS (fun E => tI Z (fun cls d _ H => E cls d H) (ev C e)) body scope p lpos pos L gl fun A outer s H E f c' hr => he _ _ (g.lamX h0 hlow A outer s H E scope f c' hr)) fun σ H Q ⟨m, S, r, P, PX, bs, h, k⟩ => ?_
  simp only [ev] at h
  refine ⟨bs.rep.tabs.1, fun H1 hE hT => ?_⟩
  have gE : Grow m H m H1 := Grow.ofExtN hE
  have R1 := bs.rep.ofExtN hE hT
  refine ⟨m, S, r, _, _, ⟨R1, bs.re.grow bs.rep gE, ?_⟩, h, ?_⟩
  · rintro x S' m' H' cls d ⟨w, hw, hP⟩ g1 R' rx
    exact ⟨m', S', x, w, R', rx, hw, fun T m2 H2 y g2 R2 rv => k _ _ _ _ _ (hP T) (gE.trans (g1.trans g2)) R2 rv⟩
  · intro v S' m' H' x hP g1 R' rv pp hpp
    have g2 : Grow m' H' m' (upd H' pp (.tup [.str (Str.ofString "told"), x])) := Grow.new hpp
    refine k _ _ _ _ _ hP (gE.trans (g1.trans g2)) (R'.new hpp) ?_
    simp only [RV]
    exact ⟨pp, _, rfl, .inl (.inl upd_same), RVs.cons (by simp only [RV]) (RVs.cons (RV.grow R' g2 _ _ rv) RVs.nil)⟩
theorem sd_word {F : Facts} {W : WX} {sc : Scope} {X : Cx} (g : Good Z C W F N sc X) {e : E} {ps : Arguments} {body : Expr} {scope : Scope} {p lpos pos : Pos} (h0 : F.kind = 0) (hl : F.lam = true) (hw : F.wrd = true) (hp : noPar ps = true) (L : LamX.LamS X.env.scope scope) (gl : Gl X (Str.ofString "_law_word"))
    (he : ∀ W' X', Good Z C W' F.low N scope X' → PE X' body (tI Z W' (ev C e))) : PE X (.Call (.Name (Str.ofString "_law_word") p) [.Lambda ps body scope lpos] [] pos) (tI Z W (ev C (.word e))) := by
  obtain ⟨k, hB, hlow⟩ := g.said h0 hl
  have hS := (hB X rfl rfl rfl rfl rfl rfl rfl rfl).2
  rw [noPar_eq hp]
  refine PEi (hS hw (fun E => tI Z (fun cls d _ H => E cls d H) (ev C e)) body scope p lpos pos L gl fun A outer s H E f c' hr => he _ _ (g.lamX h0 hlow A outer s H E scope f c' hr)) fun σ H Q ⟨m, S, r, P, PX, bs, h, k⟩ => ?_
  simp only [ev] at h
  refine ⟨bs.rep.tabs.1, fun H1 hE hT => ?_⟩
  have gE : Grow m H m H1 := Grow.ofExtN hE
  have R1 := bs.rep.ofExtN hE hT
  refine ⟨m, S, r, _, _, ⟨R1, bs.re.grow bs.rep gE, ?_⟩, h, ?_⟩
  · rintro x S' m' H' cls d ⟨w, hw, hP⟩ g1 R' rx
    refine ⟨m', S', x, _, R', rx, hw, fun T m2 H2 y g2 R2 rv => ?_⟩
    simp only [RV] at rv
    obtain ⟨pp, xs, rfl, hs, rs⟩ := rv
    simp only [RVs] at rs
    obtain ⟨y1, r1, rfl, hy, rfl⟩ := rs
    exact ⟨pp, y1, _, rfl, hs, k _ _ _ _ _ (hP T) (gE.trans (g1.trans g2)) R2 hy⟩
  · intro v S' m' H' x hP g1 R' rv pp hpp
    have g2 : Grow m' H' m' (upd H' pp (.tup [.str (Str.ofString "told"), x])) := Grow.new hpp
    exact ⟨pp, _, _, rfl, .inl (.inl upd_same), k _ _ _ _ _ hP (gE.trans (g1.trans g2)) (R'.new hpp) (by simp only [RV])⟩
mutual
theorem sE : ∀ (e : E) {F : Facts} {W : WX} {sc : Scope} {X : Cx} {x : Expr}, Good Z C W F N sc X → chk F N sc e x = true → PE X x (tI Z W (ev C e)) ∧ PT X x (tT Z W (ev C e))
  | .var i, F, W, sc, X, x, g, h => let ⟨a, b⟩ := sd_var g h; ⟨a, ptI g.hK a b⟩
  | .con v, F, W, sc, X, x, g, h => let ⟨a, b⟩ := sd_con h; ⟨a, ptI g.hK a b⟩
  | .glo y v, F, W, sc, X, x, g, h => let ⟨a, b⟩ := sd_glo g h; ⟨a, ptI g.hK a b⟩
  | .bin o a b, F, W, sc, X, x, g, h => by
    obtain ⟨⟨y, op, z⟩, h1, h2⟩ := anyS h
    obtain ⟨h2, h3⟩ := and2 h2
    obtain ⟨h4, h2⟩ := and2 h2
    obtain ⟨p, rfl⟩ := vBin_eq h1
    obtain rfl : op = bop o := opB'_eq h4
    have q := sd_bin (pos := p) (o := o) g (sE a g h2).1 (sE b g h3).1
    exact ⟨q, ptI g.hK q rfl⟩
  | .neg a, F, W, sc, X, x, g, h => by
    obtain ⟨⟨op, y⟩, h1, h2⟩ := anyS h
    obtain ⟨h4, h2⟩ := and2 h2
    obtain ⟨p, rfl⟩ := vUn_eq h1
    cases op <;> first | exact absurd h4 Bool.false_ne_true | skip
    have q := sd_neg (pos := p) g (sE a g h2).1
    exact ⟨q, ptI g.hK q rfl⟩
  | .not a, F, W, sc, X, x, g, h => by
    obtain ⟨⟨op, y⟩, h1, h2⟩ := anyS h
    obtain ⟨h4, h2⟩ := and2 h2
    obtain ⟨p, rfl⟩ := vUn_eq h1
    cases op <;> first | exact absurd h4 Bool.false_ne_true | skip
    exact sd_not (pos := p) g (sE a g h2).1 (sE a g h2).2
  | .cmp o a b, F, W, sc, X, x, g, h => by
    obtain ⟨⟨y, ops, zs⟩, h1, h2⟩ := anyS h
    obtain ⟨p, rfl⟩ := vCmp_eq h1
    dsimp only at h2
    match ops, zs, h2 with
    | [op], [z], q2 =>
      obtain ⟨q3, q4⟩ := and2 q2
      obtain ⟨q5, q6⟩ := and2 q3
      obtain rfl : op = cop o := cpB_eq q5
      exact sd_cmp g (chk_ok q4) (sE a g q6).1 (sE b g q4).1
    | [], [], h2 => cases h2
    | [], _ :: _, h2 => cases h2
    | [_], [], h2 => cases h2
    | [_], _ :: _ :: _, h2 => cases h2
    | _ :: _ :: _, [], h2 => cases h2
    | _ :: _ :: _, [_], h2 => cases h2
    | _ :: _ :: _, _ :: _ :: _, h2 => cases h2
  | .cmp2 o p a b c, F, W, sc, X, x, g, h => by
    obtain ⟨⟨y, ops, zs⟩, h1, h2⟩ := anyS h
    obtain ⟨pp, rfl⟩ := vCmp_eq h1
    dsimp only at h2
    split at h2
    · rename_i y1 z1 e1 e2
      obtain ⟨q2, q3⟩ := and2 h2
      obtain ⟨q4, q5⟩ := and2 q2
      obtain ⟨q6, q7⟩ := and2 q4
      obtain ⟨q8, q9⟩ := and2 q6
      obtain rfl := cpB_eq q8
      obtain rfl := cpB_eq q9
      exact sd_cmp2 g (chk_ok q3) (sE a g q7).1 (sE b g q5).1 (sE c g q3).1
    · cases h2
  | .and l, F, W, sc, X, x, g, h => by
    obtain ⟨⟨op, xs⟩, h1, h2⟩ := anyS h
    obtain ⟨h2, h3⟩ := and2 h2
    obtain ⟨h4, h2⟩ := and2 h2
    obtain ⟨p, rfl⟩ := vBo_eq h1
    cases op <;> first | exact absurd h4 Bool.false_ne_true | skip
    have q := ((sEs l g h3).2 (by simpa using h2)).1 p
    exact ⟨PEi q.1 fun σ H Q ⟨m, S, r, P, PX, b, h, k⟩ => ⟨m, S, r, P, PX, b, by simpa only [ev] using h, k⟩, pt_pw (PWi q.2 fun σ H Q ⟨m, S, r, P, PX, b, h, k⟩ => ⟨m, S, r, P, PX, b, by simpa only [ev] using h, k⟩)⟩
  | .or l, F, W, sc, X, x, g, h => by
    obtain ⟨⟨op, xs⟩, h1, h2⟩ := anyS h
    obtain ⟨h2, h3⟩ := and2 h2
    obtain ⟨h4, h2⟩ := and2 h2
    obtain ⟨p, rfl⟩ := vBo_eq h1
    cases op <;> first | exact absurd h4 Bool.false_ne_true | skip
    have q := ((sEs l g h3).2 (by simpa using h2)).2 p
    exact ⟨PEi q.1 fun σ H Q ⟨m, S, r, P, PX, b, h, k⟩ => ⟨m, S, r, P, PX, b, by simpa only [ev] using h, k⟩, pt_pw (PWi q.2 fun σ H Q ⟨m, S, r, P, PX, b, h, k⟩ => ⟨m, S, r, P, PX, b, by simpa only [ev] using h, k⟩)⟩
  | .ite c a b, F, W, sc, X, x, g, h => by
    obtain ⟨⟨z, y1, y2⟩, h1, h2⟩ := anyS h
    obtain ⟨h2, h3⟩ := and2 h2
    obtain ⟨h4, h2⟩ := and2 h2
    obtain ⟨p, rfl⟩ := vIf_eq h1
    exact sd_ite g (sE c g h4).2 (sE a g h2).1 (sE b g h3).1 (sE a g h2).2 (sE b g h3).2
  | .tup l, F, W, sc, X, x, g, h => by
    obtain ⟨xs, h1, h2⟩ := anyS h
    obtain ⟨k, p, rfl⟩ := vTup_eq h1
    have q := sd_tup (kk := k) (pos := p) (sEs l g h2).1
    exact ⟨q, ptI g.hK q rfl⟩
  | .lst l, F, W, sc, X, x, g, h => by
    obtain ⟨xs, h1, h2⟩ := anyS h
    obtain ⟨p, rfl⟩ := vLst_eq h1
    have q := sd_lst (pos := p) (sEs l g h2).1
    exact ⟨q, ptI g.hK q rfl⟩
  | .ix a b, F, W, sc, X, x, g, h => by
    obtain ⟨⟨y, z⟩, h1, h2⟩ := anyS h
    obtain ⟨h2, h3⟩ := and2 h2
    obtain ⟨p, rfl⟩ := vSub_eq h1
    have q := sd_ix (pos := p) g (chk_ok h3) (sE a g h2).1 (sE b g h3).1
    exact ⟨q, ptI g.hK q rfl⟩
  | .sl a lo hi st, F, W, sc, X, x, g, h => by
    obtain ⟨⟨y, z⟩, h1, h2⟩ := anyS h
    obtain ⟨⟨o1, o2, o3⟩, h3, h2⟩ := anyS h2
    obtain ⟨p, rfl⟩ := vSub_eq h1
    obtain ⟨p2, h3⟩ := vSl_eq h3
    obtain ⟨h2, h4⟩ := and2 h2
    obtain ⟨h2, h5⟩ := and2 h2
    obtain ⟨h2, h6⟩ := and2 h2
    dsimp only at h3
    subst h3
    have ha := (sE a g h2).1
    have hl := sEo lo g h6
    have hh := sEo hi g h5
    have hs := sEo st g h4
    cases st with
    | no =>
      have e3 : o3 = none := by simpa [chkP] using h4
      subst e3
      have q := sd_sl0 (pos := p) (p2 := p2) g ha hl hh
      exact ⟨q, ptI g.hK q rfl⟩
    | so st =>
      simp only [chkP] at h4
      obtain ⟨o, e3, h4⟩ := anyS h4
      subst e3
      have q := sd_sl3 (pos := p) (p2 := p2) g ha hl hh hs
      exact ⟨q, ptI g.hK q rfl⟩
  | .call f l, F, W, sc, X, x, g, h => by
    have q := sd_call (es := []) g h fun v hv => by
      obtain ⟨u, h1, h2⟩ := anyS h
      rw [hv] at h1
      cases h1
      exact (sEs l g (and2 h2).2).1
    exact ⟨q.1, ptI g.hK q.1 q.2⟩
  | .bi f l, F, W, sc, X, x, g, h => by
    have q := sd_bi g h fun v hv => by
      obtain ⟨u, h1, h2⟩ := anyS h
      rw [hv] at h1
      cases h1
      exact (sEs l g (and2 h2).2).1
    exact ⟨q.1, ptI g.hK q.1 q.2⟩
  | .met f o l, F, W, sc, X, x, g, h => by
    have q := sd_met g h (fun v hv => by
      obtain ⟨u, h1, h2⟩ := anyS h
      rw [hv] at h1
      cases h1
      exact (sE o g (and2 (and2 h2).1).2).1) fun v hv => by
      obtain ⟨u, h1, h2⟩ := anyS h
      rw [hv] at h1
      cases h1
      exact (sEs l g (and2 h2).2).1
    exact ⟨q.1, ptI g.hK q.1 q.2⟩
  | .isi e T, F, W, sc, X, x, g, h => by
    have q := sd_isi g h fun y hy => (sE e g hy).1
    exact ⟨q.1, ptI g.hK q.1 q.2⟩
  | .lc e tg it c own, F, W, sc, X, x, g, h => by
    obtain ⟨⟨elt, tgx, iter, ifs, scope⟩, h1, h2⟩ := anyS h
    obtain ⟨p, rfl⟩ := vLc_eq h1
    obtain ⟨h2, h3⟩ := and2 h2
    obtain ⟨h2, h4⟩ := and2 h2
    obtain ⟨h2, h5⟩ := and2 h2
    obtain ⟨h2, h6⟩ := and2 h2
    obtain ⟨h2, h7⟩ := and2 h2
    obtain ⟨h2, h8⟩ := and2 h2
    obtain ⟨hk2, h2⟩ := and2 h2
    have hk2 := of_decide_eq_true hk2
    have hi := sI it (tg := tgx) g (fun ht => by
      rw [Bool.or_eq_true] at h7
      rcases h7 with q | q
      · rw [ht] at q; cases q
      · exact q) h6
    have q := sd_lc (pos := p) g hk2 h2 h8 h5 hi.1 hi.2 (fun X' g' => sC c g' h4) (fun X' g' => (sE e g' h3).1)
    exact ⟨q, ptI g.hK q rfl⟩
  | .rgt a b, F, W, sc, X, x, g, h => by
    have q := sd_rgt g h (fun y hy => (sE a g hy).1) (fun y hy => (sE b g hy).1)
    exact ⟨q.1, ptI g.hK q.1 q.2⟩
  | .rgl a b, F, W, sc, X, x, g, h => by
    have q := sd_rgl g h (fun y hy => (sE a g hy).1) (fun y hy => (sE b g hy).1)
    exact ⟨q.1, ptI g.hK q.1 q.2⟩
  | .calld f l ds, F, W, sc, X, x, g, h => by
    have q := sd_calld g h fun v hv => by
      obtain ⟨u, h1, h2⟩ := anyS h
      rw [hv] at h1
      cases h1
      exact (sEs l g (and2 h2).2).1
    exact ⟨q.1, ptI g.hK q.1 q.2⟩
  | .sset e, F, W, sc, X, x, g, h => by
    have q := sd_sset g h fun y hy => (sE e g hy).1
    exact ⟨q.1, ptI g.hK q.1 q.2⟩
  | .dct, F, W, sc, X, x, g, h => by
    have h : isDct x = true := h
    have hp : PE X x (tI Z W (ev C .dct)) := by
      unfold isDct at h
      split at h
      · exact PEi pe_dnewK fun σ H Q ⟨m, S, r, P, PX, b, h, k⟩ => by
          simp only [ev] at h
          exact fun p hp => k.allocD b.rep h (l := []) (ks := []) rfl hp
      · cases h
    refine ⟨hp, ptI g.hK hp ?_⟩
    unfold isDct at h
    split at h
    · rfl
    · cases h
  | .dfr e, F, W, sc, X, x, g, h => by
    have q := sd_dfr g h fun y hy => (sE e g hy).1
    exact ⟨q.1, ptI g.hK q.1 q.2⟩
  | .dix a i, F, W, sc, X, x, g, h => by
    have q := sd_dix g h (fun y hy => (sE a g hy).1) fun y hy => (sE i g hy).1
    exact ⟨q.1, ptI g.hK q.1 q.2⟩
  | .rvs e, F, W, sc, X, x, g, h => by
    obtain ⟨⟨y, z⟩, h1, h2⟩ := anyS h
    obtain ⟨⟨o1, o2, o3⟩, h3, h2⟩ := anyS h2
    obtain ⟨p, rfl⟩ := vSub_eq h1
    obtain ⟨p2, h3⟩ := vSl_eq h3
    obtain ⟨b2, h4⟩ := and2 h2
    obtain ⟨c2, h5⟩ := and2 b2
    obtain ⟨d2, h6⟩ := and2 c2
    dsimp only at h3 d2 h4 h5 h6
    subst h3
    obtain rfl : o1 = none := by simpa using d2
    obtain rfl : o2 = none := by simpa using h6
    obtain ⟨y3, e3, f5⟩ := anyS h5
    subst e3
    obtain ⟨⟨u1, u2⟩, h7, h8⟩ := anyS f5
    obtain ⟨p5, e5⟩ := vUn_eq h7
    dsimp only at e5
    subst e5
    obtain ⟨g8, h9⟩ := and2 h8
    dsimp only at g8 h9
    cases u1 with
    | USub =>
      obtain ⟨k, p4, e6⟩ := vInt_eq (of_decide_eq_true h9)
      subst e6
      have q := sd_rvs (k := k) (p1 := p4) (p2 := p5) (p3 := p2) (pos := p) g (sE e g h4).1
      exact ⟨q, ptI g.hK q rfl⟩
    | _ => cases g8
  | .eqn e, F, W, sc, X, x, g, h => by
    obtain ⟨⟨y, ops, zs⟩, h1, h2⟩ := anyS h
    obtain ⟨p, rfl⟩ := vCmp_eq h1
    dsimp only at h2
    match ops, zs, h2 with
    | [op], [z], q2 =>
      obtain ⟨q3, q4⟩ := and2 q2
      obtain ⟨q5, q6⟩ := and2 q3
      obtain rfl : op = cop .eq := cpB_eq q5
      obtain ⟨es, h5, h6⟩ := anyS q4
      obtain ⟨p2, rfl⟩ := vLst_eq h5
      have : es = [] := List.isEmpty_iff.mp h6
      subst this
      exact sd_eqn g (sE e g q6).1
    | [], [], h2 => cases h2
    | [], _ :: _, h2 => cases h2
    | [_], [], h2 => cases h2
    | [_], _ :: _ :: _, h2 => cases h2
    | _ :: _ :: _, [], h2 => cases h2
    | _ :: _ :: _, _ :: _, h2 => cases h2
  | .dtn, F, W, sc, X, x, g, h => by
    have h : isDct x = true := h
    unfold isDct at h
    split at h
    · exact ⟨sd_dtn g, ptI g.hK (sd_dtn g) rfl⟩
    · cases h
  | .dt1 a b, F, W, sc, X, x, g, h => by
    obtain ⟨⟨y, z⟩, h1, h2⟩ := anyS h
    obtain ⟨p, rfl⟩ := vD1_eq h1
    obtain ⟨h3, h4⟩ := and2 h2
    have q := sd_dt1 (pos := p) g (sE a g h3).1 (sE b g h4).1
    exact ⟨q, ptI g.hK q rfl⟩
  | .dtf e, F, W, sc, X, x, g, h => by
    have q := sd_dtf g h fun y hy => (sE e g hy).1
    exact ⟨q.1, ptI g.hK q.1 q.2⟩
  | .dtx a i, F, W, sc, X, x, g, h => by
    have q := sd_dtx g h (fun y hy => (sE a g hy).1) fun y hy => (sE i g hy).1
    exact ⟨q.1, ptI g.hK q.1 q.2⟩
  | .dtg a k z, F, W, sc, X, x, g, h => by
    have q := sd_dtg g h (fun y hy => (sE a g hy).1) (fun y hy => (sE k g hy).1) fun y hy => (sE z g hy).1
    exact ⟨q.1, ptI g.hK q.1 q.2⟩
  | .dte a, F, W, sc, X, x, g, h => by
    obtain ⟨⟨y, ops, zs⟩, h1, h2⟩ := anyS h
    obtain ⟨p, rfl⟩ := vCmp_eq h1
    dsimp only at h2
    match ops, zs, h2 with
    | [op], [z], q2 =>
      obtain ⟨q3, q4⟩ := and2 q2
      obtain ⟨q5, q6⟩ := and2 q3
      obtain rfl : op = cop .eq := cpB_eq q5
      have q4 : isDct z = true := q4
      unfold isDct at q4
      split at q4
      · exact sd_dte g (sE a g q6).1
      · cases q4
    | [], [], h2 => cases h2
    | [], _ :: _, h2 => cases h2
    | [_], [], h2 => cases h2
    | [_], _ :: _ :: _, h2 => cases h2
    | _ :: _ :: _, [], h2 => cases h2
    | _ :: _ :: _, _ :: _, h2 => cases h2
  | .dnt a, F, W, sc, X, x, g, h => by
    obtain ⟨⟨y, ops, zs⟩, h1, h2⟩ := anyS h
    obtain ⟨p, rfl⟩ := vCmp_eq h1
    dsimp only at h2
    match ops, zs, h2 with
    | [op], [z], q2 =>
      obtain ⟨q3, q4⟩ := and2 q2
      obtain ⟨q5, q6⟩ := and2 q3
      obtain rfl : op = cop .ne := cpB_eq q5
      have q4 : isDct z = true := q4
      unfold isDct at q4
      split at q4
      · exact sd_dnt g (sE a g q6).1
      · cases q4
    | [], [], h2 => cases h2
    | [], _ :: _, h2 => cases h2
    | [_], [], h2 => cases h2
    | [_], _ :: _ :: _, h2 => cases h2
    | _ :: _ :: _, [], h2 => cases h2
    | _ :: _ :: _, _ :: _, h2 => cases h2
  | .dti a b, F, W, sc, X, x, g, h => by
    obtain ⟨⟨y, ops, zs⟩, h1, h2⟩ := anyS h
    obtain ⟨p, rfl⟩ := vCmp_eq h1
    dsimp only at h2
    match ops, zs, h2 with
    | [op], [z], q2 =>
      obtain ⟨q3, q4⟩ := and2 q2
      obtain ⟨q5, q6⟩ := and2 q3
      obtain rfl : op = cop .isin := cpB_eq q5
      exact sd_dti g (chk_ok q4) (sE a g q6).1 (sE b g q4).1
    | [], [], h2 => cases h2
    | [], _ :: _, h2 => cases h2
    | [_], [], h2 => cases h2
    | [_], _ :: _ :: _, h2 => cases h2
    | _ :: _ :: _, [], h2 => cases h2
    | _ :: _ :: _, _ :: _, h2 => cases h2
  | .dtv a, F, W, sc, X, x, g, h => by
    have q := sd_dtv g h fun y hy => (sE a g hy).1
    exact ⟨q.1, ptI g.hK q.1 q.2⟩
  | .zpl a b, F, W, sc, X, x, g, h => by
    have q := sd_zpl g h (fun y hy => (sE a g hy).1) (fun y hy => (sE b g hy).1)
    exact ⟨q.1, ptI g.hK q.1 q.2⟩
  | .dkf e, F, W, sc, X, x, g, h => by
    have q := sd_dkf g h fun y hy => (sE e g hy).1
    exact ⟨q.1, ptI g.hK q.1 q.2⟩
  | .dkz i j, F, W, sc, X, x, g, h => by
    have q := sd_dkz g h
    exact ⟨q.1, ptI g.hK q.1 q.2⟩
  | .dkc e, F, W, sc, X, x, g, h => by
    have q := sd_dkc g h fun y hy => (sE e g hy).1
    exact ⟨q.1, ptI g.hK q.1 q.2⟩
  | .dkx a i, F, W, sc, X, x, g, h => by
    have q := sd_dkx g h (fun y hy => (sE a g hy).1) fun y hy => (sE i g hy).1
    exact ⟨q.1, ptI g.hK q.1 q.2⟩
  | .rpr e, F, W, sc, X, x, g, h => by
    have q := sd_rpr g h fun y hy => (sE e g hy).1
    exact ⟨q.1, ptI g.hK q.1 q.2⟩
  | .jn sep e, F, W, sc, X, x, g, h => by
    have q := sd_jn g h fun y hy => (sE e g hy).1
    exact ⟨q.1, ptI g.hK q.1 q.2⟩
  | .upp e, F, W, sc, X, x, g, h => by
    have q := sd_upp g h fun y hy => (sE e g hy).1
    exact ⟨q.1, ptI g.hK q.1 q.2⟩
  | .scn e s, F, W, sc, X, x, g, h => by
    have q := sd_scn g h fun y hy => (sE e g hy).1
    exact ⟨q.1, ptI g.hK q.1 q.2⟩
  | .dcg gn kvs, F, W, sc, X, x, g, h => by
    have q := sd_dcg g h
    exact ⟨q.1, ptI g.hK q.1 q.2⟩
  | .dim a b, F, W, sc, X, x, g, h => by
    obtain ⟨⟨y, ops, zs⟩, h1, h2⟩ := anyS h
    obtain ⟨p, rfl⟩ := vCmp_eq h1
    dsimp only at h2
    match ops, zs, h2 with
    | [op], [z], q2 =>
      obtain ⟨q3, q4⟩ := and2 q2
      obtain ⟨q5, q6⟩ := and2 q3
      obtain rfl : op = cop .isin := cpB_eq q5
      exact sd_dim g (chk_ok q4) (sE a g q6).1 (sE b g q4).1
    | [], [], h2 => cases h2
    | [], _ :: _, h2 => cases h2
    | [_], [], h2 => cases h2
    | [_], _ :: _ :: _, h2 => cases h2
    | _ :: _ :: _, [], h2 => cases h2
    | _ :: _ :: _, _ :: _, h2 => cases h2
  | .dkm a b, F, W, sc, X, x, g, h => by
    obtain ⟨⟨y, ops, zs⟩, h1, h2⟩ := anyS h
    obtain ⟨p, rfl⟩ := vCmp_eq h1
    dsimp only at h2
    match ops, zs, h2 with
    | [op], [z], q2 =>
      obtain ⟨q3, q4⟩ := and2 q2
      obtain ⟨q5, q6⟩ := and2 q3
      obtain rfl : op = cop .isin := cpB_eq q5
      exact sd_dkm g (chk_ok q4) (sE a g q6).1 (sE b g q4).1
    | [], [], h2 => cases h2
    | [], _ :: _, h2 => cases h2
    | [_], [], h2 => cases h2
    | [_], _ :: _ :: _, h2 => cases h2
    | _ :: _ :: _, [], h2 => cases h2
    | _ :: _ :: _, _ :: _, h2 => cases h2
  | .dkn a b, F, W, sc, X, x, g, h => by
    obtain ⟨⟨y, ops, zs⟩, h1, h2⟩ := anyS h
    obtain ⟨p, rfl⟩ := vCmp_eq h1
    dsimp only at h2
    match ops, zs, h2 with
    | [op], [z], q2 =>
      obtain ⟨q3, q4⟩ := and2 q2
      obtain ⟨q5, q6⟩ := and2 q3
      obtain rfl : op = cop .notin := cpB_eq q5
      exact sd_dkn g (chk_ok q4) (sE a g q6).1 (sE b g q4).1
    | [], [], h2 => cases h2
    | [], _ :: _, h2 => cases h2
    | [_], [], h2 => cases h2
    | [_], _ :: _ :: _, h2 => cases h2
    | _ :: _ :: _, [], h2 => cases h2
    | _ :: _ :: _, _ :: _, h2 => cases h2
  | .dkl e, F, W, sc, X, x, g, h => by
    have q := sd_dkl g h fun y hy => (sE e g hy).1
    exact ⟨q.1, ptI g.hK q.1 q.2⟩
  | .ntin a b, F, W, sc, X, x, g, h => by
    obtain ⟨⟨y, ops, zs⟩, h1, h2⟩ := anyS h
    obtain ⟨p, rfl⟩ := vCmp_eq h1
    dsimp only at h2
    match ops, zs, h2 with
    | [op], [z], q2 =>
      obtain ⟨q3, q4⟩ := and2 q2
      obtain ⟨q5, q6⟩ := and2 q3
      obtain rfl : op = cop .notin := cpB_eq q5
      exact sd_ntin g (chk_ok q4) (sE a g q6).1 (sE b g q4).1
    | [], [], h2 => cases h2
    | [], _ :: _, h2 => cases h2
    | [_], [], h2 => cases h2
    | [_], _ :: _ :: _, h2 => cases h2
    | _ :: _ :: _, [], h2 => cases h2
    | _ :: _ :: _, _ :: _, h2 => cases h2
  | .said e, F, W, sc, X, x, g, h => by
    obtain ⟨⟨n, ps, bd, scp⟩, h1, h2⟩ := anyS h
    obtain ⟨h2, h3⟩ := and2 h2
    obtain ⟨h2, h4⟩ := and2 h2
    obtain ⟨h2, h5⟩ := and2 h2
    obtain ⟨h2, h6⟩ := and2 h2
    obtain ⟨h2, h7⟩ := and2 h2
    obtain ⟨h8, h9⟩ := and2 h2
    obtain ⟨p, q, r, rfl⟩ := vLam_eq h1
    dsimp only at *
    have en : n = Str.ofString "_law_said" := of_decide_eq_true h8
    subst en
    have hp := sd_said (p := p) (lpos := q) (pos := r) g (of_decide_eq_true h7) h6 h5 (LamX.lamS_by (by rw [g.hsc]; exact h4)) (glB_g (by rw [g.hsc]; exact h9)) fun W' X' g' => (sE e g' h3).1
    exact ⟨hp, ptI g.hK hp rfl⟩
  | .word e, F, W, sc, X, x, g, h => by
    obtain ⟨⟨n, ps, bd, scp⟩, h1, h2⟩ := anyS h
    obtain ⟨h2, h3⟩ := and2 h2
    obtain ⟨h2, h4⟩ := and2 h2
    obtain ⟨h2, h5⟩ := and2 h2
    obtain ⟨h2, h6⟩ := and2 h2
    obtain ⟨h2, h7⟩ := and2 h2
    obtain ⟨h8, h9⟩ := and2 h2
    obtain ⟨h0, h8⟩ := and2 h8
    obtain ⟨p, q, r, rfl⟩ := vLam_eq h1
    dsimp only at *
    have en : n = Str.ofString "_law_word" := of_decide_eq_true h8
    subst en
    have hp := sd_word (p := p) (lpos := q) (pos := r) g (of_decide_eq_true h7) h6 h0 h5 (LamX.lamS_by (by rw [g.hsc]; exact h4)) (glB_g (by rw [g.hsc]; exact h9)) fun W' X' g' => (sE e g' h3).1
    exact ⟨hp, ptI g.hK hp rfl⟩
  | .isx e T, F, W, sc, X, x, g, h => by
    have q := sd_isx g h fun y hy => (sE e g hy).1
    exact ⟨q.1, ptI g.hK q.1 q.2⟩
  | .fld i n, F, W, sc, X, x, g, h => let ⟨a, b⟩ := sd_fld g h; ⟨a, ptI g.hK a b⟩
  | .fnv f, F, W, sc, X, x, g, h => let ⟨a, b⟩ := sd_fnv g h; ⟨a, ptI g.hK a b⟩
  | .callv i l, F, W, sc, X, x, g, h => by
    have q := sd_callv g h fun v hv => by
      obtain ⟨u, h1, h2⟩ := anyS h
      rw [hv] at h1
      cases h1
      exact (sEs l g (and2 h2).2).1
    exact ⟨q.1, ptI g.hK q.1 q.2⟩
  | .bad, F, W, sc, X, x, g, h => ⟨⟨fun pins s σ H Q I ⟨m, S, r, P, PX, b, h, k⟩ => by simp only [ev] at h⟩, ⟨fun pins s σ H Q I ⟨m, S, r, P, PX, b, h, k⟩ => by simp only [ev] at h⟩⟩
theorem sEs : ∀ (l : Es) {F : Facts} {W : WX} {sc : Scope} {X : Cx} {xs : List Expr}, Good Z C W F N sc X → chks F N sc l xs = true → PA X xs (tL Z W (evs C l)) ∧ (xs ≠ [] → BoolR X Z W .And xs (evA C l) ∧ BoolR X Z W .Or xs (evO C l))
  | .nil, F, W, sc, X, xs, g, h => by
    have e : xs = [] := by simpa [chks] using h
    subst e
    exact ⟨sd_es_nil, fun h => absurd rfl h⟩
  | .cons e l, F, W, sc, X, [], g, h => absurd h (by simp [chks])
  | .cons e l, F, W, sc, X, x :: xs, g, h => by
    simp only [chks] at h
    obtain ⟨h1, h2⟩ := and2 h
    have a := sE e g h1
    have b := sEs l g h2
    refine ⟨sd_es_cons (chk_ok h1) a.1 b.1, fun _ => ?_⟩
    cases xs with
    | nil =>
      cases l with
      | nil => exact ⟨and1 a, or1 a⟩
      | cons _ _ => simp [chks] at h2
    | cons y ys =>
      cases l with
      | nil => simp [chks] at h2
      | cons e2 l =>
        obtain ⟨b1, b2⟩ := b.2 (by simp)
        exact ⟨and2' g a b1, or2' g a b2⟩
theorem sEo : ∀ (o : Eo) {F : Facts} {W : WX} {sc : Scope} {X : Cx} {x : Option Expr}, Good Z C W F N sc X → chkP F N sc o x = true → PO X x (tO Z W (evo C o))
  | .no, F, W, sc, X, x, g, h => by
    have e : x = none := by simpa [chkP] using h
    subst e
    exact sd_o_no
  | .so e, F, W, sc, X, x, g, h => by
    simp only [chkP] at h
    obtain ⟨y, rfl, h⟩ := anyS h
    exact sd_o_so (sE e g h).1
theorem sC : ∀ (o : Eo) {F : Facts} {W : WX} {sc : Scope} {X : Cx} {x : List Expr}, Good Z C W F N sc X → chkC F N sc o x = true → PTs X x (tC' Z W (evc C o))
  | .no, F, W, sc, X, x, g, h => by
    have e : x = [] := by simpa [chkC] using h
    subst e
    refine ⟨fun pins s σ H Q I ⟨m, S, r, P, PX, b, h, k⟩ => pts_nil.run pins s σ H Q I ?_⟩
    simp only [evc] at h
    exact k _ _ _ _ h Grow.refl b.rep
  | .so e, F, W, sc, X, [], g, h => absurd h (by simp [chkC])
  | .so e, F, W, sc, X, [x], g, h => by
    simp only [chkC] at h
    refine ⟨fun pins s σ H Q I ⟨m, S, r, P, PX, b, h2, k⟩ => (pts_one (sE e g h).2).run pins s σ H Q I ?_⟩
    simp only [evc] at h2
    exact mkT b h2 fun v S1 m1 H1 ⟨t, q0, q1⟩ g1 b1 => ⟨t, q0, k _ _ _ _ q1 g1 b1.rep⟩
  | .so e, F, W, sc, X, _ :: _ :: _, g, h => absurd h (by simp [chkC])
theorem sI : ∀ (it : I) {F : Facts} {W : WX} {sc : Scope} {X : Cx} {tg x : Expr}, Good Z C W F N sc X → (itT it = true → isTupT tg = true) → chkI F N sc it x = true → PI X tg x (tIt Z W (evI C it)) ∧ okX x = true
  | .dkeys e, F, W, sc, X, tg, x, g, ht, h => by
    simp only [chkI] at h
    exact ⟨sd_dkeys g (sE e g h).1, chk_ok h⟩
  | .ditems e, F, W, sc, X, tg, x, g, ht, h => sd_ditems g (ht rfl) h (fun y hy => (sE e g hy).1)
  | .kkeys e, F, W, sc, X, tg, x, g, ht, h => by
    simp only [chkI] at h
    exact ⟨sd_kkeys g (sE e g h).1, chk_ok h⟩
  | .kvals e, F, W, sc, X, tg, x, g, ht, h => sd_kvals g h (fun y hy => (sE e g hy).1)
  | .val e, F, W, sc, X, tg, x, g, ht, h => by
    simp only [chkI] at h
    exact ⟨pi_val g (sE e g h).1, chk_ok h⟩
  | .rng1 a, F, W, sc, X, tg, x, g, ht, h => sd_rng1 g h (fun y hy => (sE a g hy).1)
  | .rng2 a b, F, W, sc, X, tg, x, g, ht, h => sd_rng2 g h (fun y hy => (sE a g hy).1) (fun y hy => (sE b g hy).1)
  | .rng3 a b c, F, W, sc, X, tg, x, g, ht, h => sd_rng3 g h (fun y hy => (sE a g hy).1) (fun y hy => (sE b g hy).1) (fun y hy => (sE c g hy).1)
  | .enum a, F, W, sc, X, tg, x, g, ht, h => sd_enum g (ht rfl) h (fun y hy => (sE a g hy).1)
  | .zip a b, F, W, sc, X, tg, x, g, ht, h => sd_zip g (ht rfl) h (fun y hy => (sE a g hy).1) (fun y hy => (sE b g hy).1)
  | .rev a, F, W, sc, X, tg, x, g, ht, h => sd_rev g h (fun y hy => (sE a g hy).1)
end
end
end Mp

set_option Elab.async false
set_option linter.all false
set_option maxRecDepth 100000
set_option autoImplicit false
set_option maxHeartbeats 2000000
/-! Mini16: statements. -/
namespace Mp
open PySem PySem.Spec PyProof.Rows L2
/-! ### when two or three stores are swapped -/
def swP (sc : Scope) (ts vs : List Expr) : Option (List Str) :=
  if (!(ts.length == 2 || ts.length == 3) || vs.length != ts.length || (if sc.kind.isAnnotationScope = true then ScopeKind.function else sc.kind) != .function) = true then none
  else if (vs.any fun | .Starred .. => true | _ => false) = true then none
  else
    let line := (ts.head?.map (·.pos.line)).getD 0
    let names := ts.filterMap fun
      | .Name id pos => if (sc.names.lookup id == some .local && pos.line == line) = true then some id else none
      | _ => none
    if (names.length != ts.length || names.eraseDups.length != names.length) = true then none
    else if vs.all (foldedForSure 8) = true then none
    else some names
theorem sw_eq {env : PySem.Env} {ts vs : List Expr} {kt k2 : Nat} {pt p2 : Pos} (h : vs.all (constantsAlone 8) = false) : swappedStores [.Tuple ts kt pt] (.Tuple vs k2 p2) env = pure (swP env.scope ts vs) := by
  unfold swappedStores swP
  have hb : (if env.scope.kind.isAnnotationScope = true then ScopeKind.function else env.scope.kind) = env.blockKind := rfl
  rw [hb]
  show (if (!(ts.length == 2 || ts.length == 3) || vs.length != ts.length || env.blockKind != .function) = true then pure none else _) = _
  by_cases h1 : (!(ts.length == 2 || ts.length == 3) || vs.length != ts.length || env.blockKind != .function) = true
  · rw [if_pos h1, if_pos h1]
  · rw [if_neg h1, if_neg h1]
    split
    · rename_i h2
      exact congrArg pure (if_pos h2).symm
    · rename_i h2
      refine Eq.trans ?_ (congrArg pure (if_neg h2).symm)
      dsimp only
      split
      · rename_i h3
        exact congrArg pure (if_pos h3).symm
      · rename_i h3
        refine Eq.trans ?_ (congrArg pure (if_neg h3).symm)
        split
        · rename_i h4
          rfl
        · rename_i h4
          rw [h]
          rfl
/-! ### views -/
def vExp : Stmt → Option Expr
  | .Expr x _ => some x
  | _ => none
theorem vExp_eq {s : Stmt} {v : Expr} (h : vExp s = some v) : ∃ p, s = .Expr v p := by
  cases s <;> simp [vExp] at h; subst h; exact ⟨_, rfl⟩
def vAsg : Stmt → Option (Expr × Expr)
  | .Assign ts x _ => (match ts with
    | [t] => some (t, x)
    | _ => none)
  | _ => none
theorem vAsg_eq {s : Stmt} {v : Expr × Expr} (h : vAsg s = some v) : ∃ p, s = .Assign [v.1] v.2 p := by
  cases s <;> simp only [vAsg] at h <;> first | cases h | skip
  split at h
  · cases h; exact ⟨_, rfl⟩
  · cases h
def vRet : Stmt → Option (Option Expr)
  | .Return x _ => some x
  | _ => none
theorem vRet_eq {s : Stmt} {v : Option Expr} (h : vRet s = some v) : ∃ p, s = .Return v p := by
  cases s <;> simp [vRet] at h; subst h; exact ⟨_, rfl⟩
def vIfS : Stmt → Option (Expr × List Stmt × List Stmt)
  | .If c a b _ => some (c, a, b)
  | _ => none
theorem vIfS_eq {s : Stmt} {v : Expr × List Stmt × List Stmt} (h : vIfS s = some v) : ∃ p, s = .If v.1 v.2.1 v.2.2 p := by
  cases s <;> simp [vIfS] at h; subst h; exact ⟨_, rfl⟩
def vWhl : Stmt → Option (Expr × List Stmt)
  | .While c a b _ => if b.isEmpty then some (c, a) else none
  | _ => none
theorem vWhl_eq {s : Stmt} {v : Expr × List Stmt} (h : vWhl s = some v) : ∃ p, s = .While v.1 v.2 [] p := by
  cases s <;> simp only [vWhl] at h <;> first | cases h | skip
  rename_i c a b p
  cases b with
  | nil => cases h; exact ⟨_, rfl⟩
  | cons _ _ => cases h
def vFor : Stmt → Option (Expr × Expr × List Stmt)
  | .For t i a b _ => if b.isEmpty then some (t, i, a) else none
  | _ => none
theorem vFor_eq {s : Stmt} {v : Expr × Expr × List Stmt} (h : vFor s = some v) : ∃ p, s = .For v.1 v.2.1 v.2.2 [] p := by
  cases s <;> simp only [vFor] at h <;> first | cases h | skip
  rename_i t i a b p
  cases b with
  | nil => cases h; exact ⟨_, rfl⟩
  | cons _ _ => cases h
def isPass : Stmt → Bool
  | .Pass _ => true
  | _ => false
def isBrk : Stmt → Bool
  | .Break _ => true
  | _ => false
def isCont : Stmt → Bool
  | .Continue _ => true
  | _ => false
def isLcE : E → Bool
  | .lc _ _ _ _ _ => true
  | _ => false
def isNm : Tg → Bool
  | .nm _ => true
  | _ => false
/-- a plain store of a value that is no comprehension -/
def asgB (sc : Scope) (t x : Expr) : Bool := match vTup t, vTup x with
  | some ts, some vs => (swP sc ts vs).isNone && !vs.all (constantsAlone 8)
  | _, _ => true
mutual
def chkS (F : Facts) (N : List Str) (sc : Scope) : St → Stmt → Bool
  | .exp e, s => (vExp s).any fun x => (vLc x).isNone && chk F N sc e x
  | .asg tg e, s => (vAsg s).any fun v => (isNm tg || decide (F.kind ≠ 2)) && chkT N sc tg v.1 && chk F N sc e v.2 && (if (vLc v.2).isNone = true then asgB sc v.1 v.2 else isLcE e && isNm tg)
  | .par is l, s => (vAsg s).any fun v => (vTup v.1).any fun ts => (vTup v.2).any fun vs => decide (F.kind ≠ 2) && tgsN N sc is ts && chks F N sc l vs && decide (swP sc ts vs = some (ts.filterMap vName)) && !vs.all (constantsAlone 8) && decide is.Nodup && ts.all fun t => (vName t).any fun x => lonB sc x
  | .put o i e, s => (vAsg s).any fun v => (vSub v.1).any fun w => chk F N sc o w.1 && chk F N sc i w.2 && chk F N sc e v.2 && (vLc v.2).isNone
  | .dput o i e, s => (vAsg s).any fun v => (vSub v.1).any fun w => chk F N sc o w.1 && chk F N sc i w.2 && chk F N sc e v.2 && (vLc v.2).isNone
  | .kput o i e, s => (vAsg s).any fun v => (vSub v.1).any fun w => chk F N sc o w.1 && chk F N sc i w.2 && chk F N sc e v.2 && (vLc v.2).isNone
  | .ret e, s => (vRet s).any fun o => o.any fun x => chk F N sc e x
  | .retN, s => (vRet s).any fun o => o.isNone
  | .ite c a b, s => (vIfS s).any fun v => chk F N sc c v.1 && chkSs F N sc a v.2.1 && chkSs F N sc b v.2.2
  | .whl c b, s => (vWhl s).any fun v => chk F N sc c v.1 && chkSs F N sc b v.2
  | .for tg it b, s => (vFor s).any fun v => decide (F.kind ≠ 2) && chkT N sc tg v.1 && (!itT it || isTupT v.1) && chkI F N sc it v.2.1 && chkSs F N sc b v.2.2
  | .pass, s => isPass s
  | .brk, s => isBrk s
  | .cont, s => isCont s
  | .raise c (.cons a l), s => (vRaiseA s).any fun v => decide (F.kind ≠ 2) && decide (v.1 = Str.ofString c) && glB sc v.1 && okB v.1 && F.xis.contains c && chks F N sc (.cons a l) v.2 && !v.2.isEmpty
  | .raise c .nil, s => decide (c = "") || (vRaise s).any fun v => decide (F.kind ≠ 2) && decide (v.1 = Str.ofString c) && glB sc v.1 && okB v.1 && F.xns.contains c
def chkSs (F : Facts) (N : List Str) (sc : Scope) : Ss → List Stmt → Bool
  | .nil, l => l.isEmpty
  | .cons s ss, l => (match l with
    | x :: l => chkS F N sc s x && chkSs F N sc ss l
    | [] => false)
end
/-! ### readings -/
structure EndsR (Z : Zt) (W : WX) (D : Ends) (k : Ko) (m : List Addr) (H : Hp) : Prop where
  nx : ∀ r' S' m' H' σ', k.nx r' S' → Grow m H m' H' → Rep Z m' S' H' → RE Z H' m' r' σ' → D.nx σ' H'
  rt : ∀ v S' m' H' x, k.rt v S' → Grow m H m' H' → Rep Z m' S' H' → RV Z.K H' m' v x → D.rt x H'
  bk : ∀ r' S' m' H' σ', k.bk r' S' → Grow m H m' H' → Rep Z m' S' H' → RE Z H' m' r' σ' → D.bk σ' H'
  ct : ∀ r' S' m' H' σ', k.ct r' S' → Grow m H m' H' → Rep Z m' S' H' → RE Z H' m' r' σ' → D.ct σ' H'
  ex : ∀ e r' S' m' H' σ' cls d, k.ex e r' S' → Grow m H m' H' → Rep Z m' S' H' → RE Z H' m' r' σ' → RX Z H' m' e cls d → W cls d σ' H'
theorem EndsR.grow {Z : Zt} {W : WX} {D : Ends} {k : Ko} {m m1 : List Addr} {H H1 : Hp} (E : EndsR Z W D k m H) (g : Grow m H m1 H1) : EndsR Z W D k m1 H1 :=
  ⟨fun r' S' m' H' σ' q g2 => E.nx r' S' m' H' σ' q (g.trans g2), fun v S' m' H' x q g2 => E.rt v S' m' H' x q (g.trans g2), fun r' S' m' H' σ' q g2 => E.bk r' S' m' H' σ' q (g.trans g2),
    fun r' S' m' H' σ' q g2 => E.ct r' S' m' H' σ' q (g.trans g2), fun e r' S' m' H' σ' cls d q g2 => E.ex e r' S' m' H' σ' cls d q (g.trans g2)⟩
theorem EndsR.bs {Z : Zt} {W : WX} {D : Ends} {k : Ko} {m : List Addr} {H : Hp} {S : Sto} {r : Mp.Env} {σ : L2.St} (E : EndsR Z W D k m H) (R : Rep Z m S H) (re : RE Z H m r σ) : Bs Z W (fun x S1 => k.ex x r S1) r σ m S H :=
  ⟨R, re, fun e S' m' H' cls d q g R' rx => E.ex e r S' m' H' σ cls d q g R' (re.grow R g) rx⟩
def tSt (Z : Zt) (W : WX) (t : Mp.Env → Sto → Ko → Prop) : TS := fun D σ H => ∃ m S r k, Rep Z m S H ∧ RE Z H m r σ ∧ EndsR Z W D k m H ∧ t r S k
theorem PSsi {X : Cx} {e : List Stmt} {t t' : TS} (h : PSs X e t) (k : ∀ D σ H, t' D σ H → t D σ H) : PSs X e t' := ⟨fun pins s σ H D I q => h.run pins s σ H D I (k D σ H q)⟩
/-- what C(self, many, most) asks of the own __init__ -/
def spIni (K : PySem.W.Frag) : Sp := fun vs H Q _ => ∃ (a C : Addr) (x y : V), vs = [.ref a, x, y] ∧ OexC K C ∧ PySem.W.findIn K (.ref C) (Str.ofString "many") = some none ∧ PySem.W.findIn K (.ref C) (Str.ofString "most") = some none ∧ H a = some (exo a C none) ∧
  ∀ d, H d = none → d ≠ a → Q .non (upd (upd (upd H d (exd d [(Str.ofString "many", x)])) a (exo a C (some d))) d (exd d [(Str.ofString "most", y), (Str.ofString "many", x)]))
/-- an own class of errors with fields -/
structure XiF (P : Program) (w : World) (K : PySem.W.Frag) (mg : Str → Option Value) (base : Heap) (c : String) (Cc fI : Addr) (fd : FuncData) (ps : List Str) : Prop where
  gm : mg (Str.ofString c) = some (.ref Cc)
  ox : OexC K Cc
  f1 : PySem.W.findIn K (.ref Cc) (Str.ofString "many") = some none
  f2 : PySem.W.findIn K (.ref Cc) (Str.ofString "most") = some none
  iC : PySem.W.findIn K (.ref Cc) "__init__" = some (some (.ref fI))
  tI : PySem.W.typeIn K (.ref fI) = some (.type "function")
  fn : FnOk P w K mg base (L2.CX P w) 1 fI fd ps (spIni K)
  bd : Binds K fd ps []
structure GoodS (Z : Zt) (C : Call) (W : WX) (F : Facts) (N : List Str) (sc : Scope) (X : Cx) : Prop where
  g : Good Z C W F N sc X
  po : PassesOwn (model X.prog X.w) X.A X.env X.xe
  nm : ∀ x, X.fn x = true
  fk : sc.kind = .function
  xi : F.kind ≠ 2 → Room 2 X.A ∧ ∀ c ∈ F.xis, c ∈ Z.xi ∧ ∃ Cc fI fd ps, XiF X.prog X.w X.K X.mg X.base c Cc fI fd ps
section
variable {Z : Zt} {C : Call} {W : WX} {F : Facts} {N : List Str} {sc : Scope} {X : Cx}
theorem GoodS.tg (G : GoodS Z C W F N sc X) (i : Nat) (e : Expr) (h : tgN N sc i e = true) : NmOk X i e := by
  obtain ⟨x, h1, h2⟩ := anyS h
  obtain ⟨h2, h3⟩ := and2 h2
  obtain ⟨p, rfl⟩ := vName_eq h1
  exact ⟨x, p, rfl, by rw [G.g.hN]; exact of_decide_eq_true h2, by rw [G.g.hsc]; exact locB_l h3, .inl (G.nm x)⟩
theorem sw_plain {x : Expr} (ok : okX x = true) (hl : (vLc x).isNone = true) (t : Option Expr) (l : Nat) (env : PySem.Env) (hz : ∀ a b c d, x = .ListComp a b c d → False) : swapsWith x t l env = pure false := by
  cases x <;> first | rfl | exact absurd ok Bool.false_ne_true | skip
  exact (hz _ _ _ _ rfl).elim
/-- a checked term's text that is a comprehension is one of ours -/
theorem lc_isLc {e : E} {x : Expr} (h : chk F N sc e x = true) (hl : (vLc x).isNone = true) : ∀ a b c d, x = .ListComp a b c d → False := by
  intro a b c d q
  subst q
  cases e <;> first | exact absurd h Bool.false_ne_true | skip
  · obtain ⟨v, h1, h2⟩ := anyS h
    rw [h1] at hl
    cases hl
theorem sS_exp (G : GoodS Z C W F N sc X) {e : E} {x : Expr} {p : Pos} (h : chk F N sc e x = true) (hl : (vLc x).isNone = true) : PS X (.Expr x p) (tSt Z W (exec C (.exp e))) :=
  PSi (ps_expr (sE e G.g h).1 (sw_plain (chk_ok h) hl _ _ _ (lc_isLc h hl))) fun D σ H ⟨m, S, r, k, R, re, E, h⟩ => by
    simp only [exec] at h
    exact mkI (E.bs R re) h fun v S1 m1 H1 x1 q g1 b1 r1 => E.nx _ _ _ _ _ q g1 b1.rep b1.re
theorem tAsg_r {e : E} {tg : Tg} {D : Ends} {σ : L2.St} {H : Hp} (q : tSt Z W (exec C (.asg tg e)) D σ H) : tAsg (tI Z W (ev C e)) (gT Z tg) D σ H := by
  obtain ⟨m, S, r, k, R, re, E, h⟩ := q
  simp only [exec] at h
  exact mkI (E.bs R re) h fun v S1 m1 H1 x1 q g1 b1 r1 => ⟨m1, S1, r, v, _, b1.rep, b1.re, r1, q, fun r' σ' hk re' _ => E.nx _ _ _ _ _ hk g1 b1.rep re'⟩
theorem tg_view {tg : Tg} {t : Expr} (h : chkT N sc tg t = true) : (∃ x p, t = .Name x p) ∨ ∃ l k p, t = .Tuple l k p := by
  cases tg with
  | nm i =>
    obtain ⟨x, h1, h2⟩ := anyS h
    obtain ⟨p, e⟩ := vName_eq h1
    exact .inl ⟨x, p, e⟩
  | tup is =>
    obtain ⟨x, h1, h2⟩ := anyS h
    obtain ⟨k, p, e⟩ := vTup_eq h1
    exact .inr ⟨x, k, p, e⟩
theorem sS_asg (G : GoodS Z C W F N sc X) {tg : Tg} {e : E} {t x : Expr} {p : Pos} (hn : (isNm tg || decide (F.kind ≠ 2)) = true) (ht : chkT N sc tg t = true) (h : chk F N sc e x = true) (hl : (vLc x).isNone = true) (ha : asgB sc t x = true) : PS X (.Assign [t] x p) (tSt Z W (exec C (.asg tg e))) := by
  have g := G.g
  have hg := sdT (Z := Z) (X := X) g.hK (fun q => g.calm (by
    cases tg with
    | nm i => exact absurd rfl (q i)
    | tup is => exact of_decide_eq_true hn)) (by rw [g.hN]; exact g.nd) G.tg ht
  have sw := fun t l env => sw_plain (chk_ok h) hl t l env (lc_isLc h hl)
  have swS : swappedStores [t] x X.env = pure none := by
    rcases tg_view ht with ⟨y, q, rfl⟩ | ⟨l, k, q, rfl⟩
    · rfl
    · by_cases hx : ∃ vs k2 p2, x = .Tuple vs k2 p2
      · obtain ⟨vs, k2, p2, rfl⟩ := hx
        unfold asgB at ha
        simp only [vTup] at ha
        obtain ⟨h1, h2⟩ := and2 ha
        rw [sw_eq (by simpa using h2), g.hsc]
        rw [Option.isNone_iff_eq_none.mp h1]
      · have ok := chk_ok h
        cases x <;> first | rfl | exact absurd ok Bool.false_ne_true | skip
        exact absurd ⟨_, _, _, rfl⟩ hx
  have as : List.map (fun x => x.snd) (assignEach [t] X.env) = [assign t X.env] := by
    rcases tg_view ht with ⟨y, q, rfl⟩ | ⟨l, k, q, rfl⟩ <;> rfl
  exact PSi (ps_asg (sE e g h).1 hg (sw _ _ _) swS as) fun D σ H q => tAsg_r q
theorem sS_lc (G : GoodS Z C W F N sc X) (hk2 : F.kind ≠ 2) {i : Nat} {e : E} {tg : Tg} {it : I} {c : Eo} {own : List Nat} {t x : Expr} {p : Pos} (ht : tgN N sc i t = true) (h : chk F N sc (.lc e tg it c own) x = true) : PS X (.Assign [t] x p) (tSt Z W (exec C (.asg (.nm i) (.lc e tg it c own)))) := by
  have g := G.g
  obtain ⟨y, py, rfl, n1, n2, n3⟩ := G.tg i t ht
  have hx := (sE _ g h).1
  obtain ⟨⟨elt, tgx, iter, ifs, scope⟩, h1, h2⟩ := anyS h
  obtain ⟨p2, rfl⟩ := vLc_eq h1
  obtain ⟨h2, h3⟩ := and2 h2
  obtain ⟨h2, h4⟩ := and2 h2
  obtain ⟨h2, h5⟩ := and2 h2
  obtain ⟨h2, h6⟩ := and2 h2
  obtain ⟨h2, h7⟩ := and2 h2
  obtain ⟨h2, h8⟩ := and2 h2
  obtain ⟨_, h2⟩ := and2 h2
  have hi := sI it (tg := tgx) g (fun ht => by
    rw [Bool.or_eq_true] at h7
    rcases h7 with q | q
    · rw [ht] at q; cases q
    · exact q) h6
  have bo : BlkOk X.N X.env.scope scope (own.map fun k => ((N[k]?).getD Str.empty, k)) := by rw [g.hN, g.hsc]; exact blkOk_by h2
  dsimp only
  have fin : ∀ D σ H, tAsg (tI Z W (ev C (.lc e tg it c own))) (gName i) D σ H → tAsg (tLc (tIt Z W (evI C it)) (gT Z tg) (tC' Z W0 (evc C c)) (tI Z W0 (ev C e)) own) (gName i) D σ H := fun D σ H q => lc_read h8 _ _ _ q
  have st : ∀ D σ H, tSt Z W (exec C (.asg (.nm i) (.lc e tg it c own))) D σ H → tAsg (tI Z W (ev C (.lc e tg it c own))) (gName i) D σ H := by
    rintro D σ H ⟨m, S, r, k, R, re, E, h⟩
    simp only [exec] at h
    exact mkI (E.bs R re) h fun v S1 m1 H1 x1 q g1 b1 r1 => E.nx _ _ _ _ _ q g1 b1.rep (b1.re.set r1 i)
  cases hsw : ((X.env.blockKind == .function && X.env.kindOf y == some .local && py.line == (Expr.ListComp elt [⟨tgx, iter, ifs, 0⟩] scope p2).pos.line && !(scope.names.any fun (n, k) => n == y && (k == .local || k == .cell)) : Bool)) with
  | true =>
    have e1 : swapsWith (.ListComp elt [⟨tgx, iter, ifs, 0⟩] scope p2) (some (.Name y py)) p.line X.env = pure true := by
      show (pure (X.env.blockKind == .function && X.env.kindOf y == some .local && py.line == (Expr.ListComp elt [⟨tgx, iter, ifs, 0⟩] scope p2).pos.line && !(scope.names.any fun (n, k) => n == y && (k == .local || k == .cell))) : Sem Bool) = _
      rw [hsw]
    have hy : X.env.scope.names.lookup y = some .local := by
      have q := (and2 (and2 (and2 hsw).1).1).2
      exact eq_of_beq q
    have hlc := ps_setLc (spos := p) (g.calm hk2) (by rw [g.hN]; exact g.nd) n1 hy e1 hi.1 bo (lc_pg g hk2 h5) (fun s H A cl fp => sC c (g.blk hk2 s H scope A cl fp) h4) (fun s H A cl fp => (sE e (g.blk hk2 s H scope A cl fp) h3).1) (fun v => fold_ok hi.2 X.env v)
    rw [lc_own] at hlc
    exact PSi hlc fun D σ H q => fin D σ H (st D σ H q)
  | false =>
    have e1 : swapsWith (.ListComp elt [⟨tgx, iter, ifs, 0⟩] scope p2) (some (.Name y py)) p.line X.env = pure false := by
      show (pure (X.env.blockKind == .function && X.env.kindOf y == some .local && py.line == (Expr.ListComp elt [⟨tgx, iter, ifs, 0⟩] scope p2).pos.line && !(scope.names.any fun (n, k) => n == y && (k == .local || k == .cell))) : Sem Bool) = _
      rw [hsw]
    exact PSi (ps_set (by rw [g.hN]; exact g.nd) n1 n2 hx e1 n3) fun D σ H q => st D σ H q
end
end Mp

set_option Elab.async false
set_option linter.all false
set_option maxRecDepth 100000
set_option autoImplicit false
set_option maxHeartbeats 2000000
/-! Mini17: all statements. -/
namespace Mp
open PySem PySem.Spec PyProof.Rows L2
section
variable {Z : Zt} {C : Call} {W : WX} {F : Facts} {N : List Str} {sc : Scope} {X : Cx}
/-- two or three stores at once -/
theorem lon_l {x : Str} (h : lonB sc x = true) : sc.names.lookup x = some .local := by
  unfold lonB at h
  split at h
  · assumption
  · cases h
theorem swapS {x : Expr} {t : Expr} {l : Nat} {env : PySem.Env} {ts : List Expr} {vs : List Expr} {k1 k2 : Nat} {p1 p2 : Pos} : swapsWithSole [.Tuple ts k1 p1] (.Tuple vs k2 p2) l env = pure false := rfl
theorem two_of {α : Type} {l : List α} (h : l.length = 2) : ∃ a b, l = [a, b] := by
  match l, h with
  | [a, b], _ => exact ⟨a, b, rfl⟩
theorem three_of {α : Type} {l : List α} (h : l.length = 3) : ∃ a b c, l = [a, b, c] := by
  match l, h with
  | [a, b, c], _ => exact ⟨a, b, c, rfl⟩
theorem tgs_len {N : List Str} {sc : Scope} : ∀ {is : List Nat} {ts : List Expr}, tgsN N sc is ts = true → is.length = ts.length
  | [], [], _ => rfl
  | [], _ :: _, h => absurd h (by simp [tgsN])
  | _ :: _, [], h => absurd h (by simp [tgsN])
  | i :: is, t :: ts, h => by
    simp only [tgsN] at h
    rw [List.length_cons, List.length_cons, tgs_len (and2 h).2]
theorem sS_par (G : GoodS Z C W F N sc X) (hk2 : F.kind ≠ 2) {is : List Nat} {l : Es} {ts vs : List Expr} {k1 k2 : Nat} {p1 p2 p : Pos} (ht : tgsN N sc is ts = true) (h : chks F N sc l vs = true) (hs : swP sc ts vs = some (ts.filterMap vName)) (hc : vs.all (constantsAlone 8) = false) (hd : is.Nodup)
    (hl : ts.all (fun t => (vName t).any fun x => lonB sc x) = true) : PS X (.Assign [.Tuple ts k1 p1] (.Tuple vs k2 p2) p) (tSt Z W (exec C (.par is l))) := by
  have g := G.g
  have ha := (sEs l g h).1
  have hw : swappedStores [.Tuple ts k1 p1] (.Tuple vs k2 p2) X.env = pure (some (ts.filterMap vName)) := by rw [sw_eq hc, g.hsc, hs]
  have len : (ts.length = 2 ∨ ts.length = 3) ∧ vs.length = ts.length := by
    unfold swP at hs
    by_cases h1 : (!(ts.length == 2 || ts.length == 3) || vs.length != ts.length || (if sc.kind.isAnnotationScope = true then ScopeKind.function else sc.kind) != .function) = true
    · rw [if_pos h1] at hs
      cases hs
    · have h0 := Bool.eq_false_iff.mpr h1
      rw [Bool.or_eq_false_iff, Bool.or_eq_false_iff] at h0
      obtain ⟨⟨h2, h3⟩, _⟩ := h0
      refine ⟨?_, by simpa using h3⟩
      by_cases q : ts.length = 2
      · exact .inl q
      · exact .inr (by simpa [q] using h2)
  have nd : X.N.Nodup := by rw [g.hN]; exact g.nd
  have nmok : ∀ i t, tgN N sc i t = true → (vName t).any (fun x => lonB sc x) = true → ∃ x p, t = .Name x p ∧ X.N[i]? = some x ∧ X.env.scope.names.lookup x = some .local := by
    intro i t h1 h2
    obtain ⟨x, q, rfl, n1, _, _⟩ := G.tg i t h1
    exact ⟨x, q, rfl, n1, by rw [g.hsc]; exact lon_l h2⟩
  have fin : ∀ {D σ H}, tSt Z W (exec C (.par is l)) D σ H → tL Z W (evs C l) σ H fun xs H1 => ∃ m S r k vs, Rep Z m S H1 ∧ RE Z H1 m r σ ∧ EndsR Z W D k m H1 ∧ RVs Z.K H1 m vs xs ∧ is.length = vs.length ∧ k.nx (setAll is vs r) S := by
    rintro D σ H ⟨m, S, r, k, R, re, E, h⟩
    simp only [exec] at h
    exact mkL (E.bs R re) h fun v S1 m1 H1 x1 ⟨q1, q2⟩ g1 b1 r1 => ⟨m1, S1, r, k, v, b1.rep, b1.re, E.grow g1, r1, q1, q2⟩
  rcases len.1 with l2 | l3
  · obtain ⟨t1, t2, rfl⟩ := two_of l2
    obtain ⟨v1, v2, rfl⟩ := two_of (len.2.trans l2)
    · obtain ⟨i, j, rfl⟩ := two_of (tgs_len ht)
      · skip
        simp only [tgsN, Bool.and_eq_true] at ht
        simp only [List.all_cons, List.all_nil, Bool.and_eq_true] at hl
        obtain ⟨x, px, rfl, n1, n2⟩ := nmok i t1 ht.1 hl.1
        obtain ⟨y, py, rfl, n3, n4⟩ := nmok j t2 ht.2.1 hl.2.1
        have hij : i ≠ j := by simpa using hd
        refine PSi (ps_par (g.calm hk2) nd n1 n3 hij n2 n4 ha hw rfl) fun D σ H q => ?_
        obtain ⟨m0, S0, r0, P, PX, b, hq, k0⟩ := fin q
        refine ⟨m0, S0, r0, P, PX, b, hq, fun vs S' m' H' xs p g0 R0 rv0 => ?_⟩
        obtain ⟨m1, S1, r, k, vs, R, re, E, rv, hlen, q⟩ := k0 vs S' m' H' xs p g0 R0 rv0
        obtain ⟨a, b, rfl⟩ := two_of hlen.symm
        · skip
          obtain ⟨xa, xb, rfl, ra, rb⟩ := rv.two
          exact ⟨xa, xb, rfl, E.nx _ _ _ _ _ q Grow.refl R ((re.set ra i).set rb j)⟩
  · obtain ⟨t1, t2, t3, rfl⟩ := three_of l3
    obtain ⟨v1, v2, v3, rfl⟩ := three_of (len.2.trans l3)
    · obtain ⟨i, j, l', rfl⟩ := three_of (tgs_len ht)
      · skip
        simp only [tgsN, Bool.and_eq_true] at ht
        simp only [List.all_cons, List.all_nil, Bool.and_eq_true] at hl
        obtain ⟨x, px, rfl, n1, n2⟩ := nmok i t1 ht.1 hl.1
        obtain ⟨y, py, rfl, n3, n4⟩ := nmok j t2 ht.2.1 hl.2.1
        obtain ⟨z, pz, rfl, n5, n6⟩ := nmok l' t3 ht.2.2.1 hl.2.2.1
        have hij : (i ≠ j ∧ i ≠ l') ∧ j ≠ l' := by simpa using hd
        refine PSi (ps_par3 (g.calm hk2) nd n1 n3 n5 hij.1.1 hij.1.2 hij.2 n2 n4 n6 ha hw rfl) fun D σ H q => ?_
        obtain ⟨m0, S0, r0, P, PX, b, hq, k0⟩ := fin q
        refine ⟨m0, S0, r0, P, PX, b, hq, fun vs S' m' H' xs p g0 R0 rv0 => ?_⟩
        obtain ⟨m1, S1, r, k, vs, R, re, E, rv, hlen, q⟩ := k0 vs S' m' H' xs p g0 R0 rv0
        obtain ⟨a, b, c, rfl⟩ := three_of hlen.symm
        · skip
          simp only [RVs] at rv
          obtain ⟨xa, r1, rfl, ra, xb, r2, rfl, rb, xc, r3, rfl, rc, r4⟩ := rv
          subst r4
          exact ⟨xa, xb, xc, rfl, E.nx _ _ _ _ _ q Grow.refl R (((re.set ra i).set rb j).set rc l')⟩
theorem sub_eq {o i : Expr} {pos : Pos} {env : PySem.Env} (ok : okX i = true) : ∀ v : Value, assign (.Subscript o i pos) env v = (do
    let ov ← holding [v] (eval o env)
    let iv ← holding [v, ov] (eval i env)
    standAt pos
    holding [v, ov, iv] (setItem ov iv v)
    release [v, ov, iv] []) := by
  intro v
  cases i <;> first | rfl | exact absurd ok Bool.false_ne_true
theorem sS_put (G : GoodS Z C W F N sc X) {o i e : E} {a b x : Expr} {p1 p : Pos} (h1 : chk F N sc o a = true) (h2 : chk F N sc i b = true) (h3 : chk F N sc e x = true) (hl : (vLc x).isNone = true) : PS X (.Assign [.Subscript a b p1] x p) (tSt Z W (exec C (.put o i e))) := by
  have g := G.g
  have sw := fun t l env => sw_plain (chk_ok h3) hl t l env (lc_isLc h3 hl)
  have hg : PG X (.Subscript a b p1) (gSub (tI Z W (ev C o)) (tI Z W (ev C i)) rSetL) := pg_sub (sE o g h1).1 (sE i g h2).1 set_list (sub_eq (chk_ok h2))
  refine PSi (ps_asg (sE e g h3).1 hg (sw (some (.Subscript a b p1)) p.line X.env) rfl rfl) fun D σ H ⟨m, S, r, k, R, re, E, h⟩ => ?_
  simp only [exec] at h
  refine mkI (E.bs R re) h fun v S1 m1 H1 x1 q1 g1 b1 r1 => mkI b1 q1 fun ov S2 m2 H2 x2 q2 g2 b2 r2 => mkI b2 q2 fun iv S3 m3 H3 x3 q3 g3 b3 r3 => ?_
  have r1' := RV.grow b1.rep (g2.trans g3) _ _ r1
  have r2' := RV.grow b2.rep g3 _ _ r2
  unfold putS at q3
  split at q3
  · rename_i n kk
    obtain ⟨l, j, e1, e2, q⟩ := q3
    simp only [RV] at r2' r3
    obtain ⟨pa, hpa, rfl⟩ := r2'
    obtain ⟨xs, hs, rs⟩ := b3.rep.gt e1 hpa
    have gp : Grow m3 H3 m3 (upd H3 pa (.lst (xs.set j x1))) := Grow.put (List.mem_of_getElem? hpa) (by rw [hs]; simp)
    exact ⟨pa, xs, kk, j, rfl, r3, hs, by rw [← rs.len]; exact e2, E.nx _ _ _ _ _ q (g1.trans (g2.trans (g3.trans gp))) (b3.rep.put hs hpa (RVs.set r1' j rs)) (b3.re.grow b3.rep gp)⟩
  · exact q3.elim
theorem sS_dput (G : GoodS Z C W F N sc X) {o i e : E} {a b x : Expr} {p1 p : Pos} (h1 : chk F N sc o a = true) (h2 : chk F N sc i b = true) (h3 : chk F N sc e x = true) (hl : (vLc x).isNone = true) : PS X (.Assign [.Subscript a b p1] x p) (tSt Z W (exec C (.dput o i e))) := by
  have g := G.g
  have sw := fun t l env => sw_plain (chk_ok h3) hl t l env (lc_isLc h3 hl)
  refine PSi (TD.ps_tput (by have := g.hu; omega) (sE o g h1).1 (sE i g h2).1 (sE e g h3).1 (sw (some (.Subscript a b p1)) p.line X.env)) fun D σ H ⟨m, S, r, k, R, re, E, h⟩ => ?_
  simp only [exec] at h
  refine mkI (E.bs R re) h fun v S1 m1 H1 x1 q1 g1 b1 r1 => mkI b1 q1 fun ov S2 m2 H2 x2 q2 g2 b2 r2 => mkI b2 q2 fun iv S3 m3 H3 x3 ⟨n, l, ks, e1, e2, e3, e4, q3⟩ g3 b3 r3 => ?_
  subst e1
  have r1' := RV.grow b1.rep (g2.trans g3) _ _ r1
  have r2' := RV.grow b2.rep g3 _ _ r2
  simp only [RV] at r2'
  obtain ⟨pa, hpa, rfl⟩ := r2'
  obtain ⟨ob, xs, hd, T, tr⟩ := b3.rep.rdT e2 hpa
  obtain ⟨b, rfl, hs⟩ := keyT_V e4 r3
  refine ⟨pa, ob, xs, b, ks, rfl, hd, by rw [g.hK]; exact T, rfl, by rw [g.hK]; exact hs, by rw [← tr.len, sz]; exact e3, fun ob' u ru T' => ?_⟩
  obtain ⟨es, ep, hdat, _⟩ := T.dat
  have gp : Grow m3 H3 m3 (upd H3 pa (TD.pin pa ob')) := Grow.put (List.mem_of_getElem? hpa) (by rw [hd]; simp)
  exact E.nx _ _ _ _ _ (q3 ob') (g1.trans (g2.trans (g3.trans gp))) (b3.rep.putT hd hdat hpa (by rw [← g.hK]; exact T') (tr.put r1' ru)) (b3.re.grow b3.rep gp)
theorem sS_kput (G : GoodS Z C W F N sc X) {o i e : E} {a b x : Expr} {p1 p : Pos} (h1 : chk F N sc o a = true) (h2 : chk F N sc i b = true) (h3 : chk F N sc e x = true) (hl : (vLc x).isNone = true) : PS X (.Assign [.Subscript a b p1] x p) (tSt Z W (exec C (.kput o i e))) := by
  have g := G.g
  have sw := fun t l env => sw_plain (chk_ok h3) hl t l env (lc_isLc h3 hl)
  refine PSi (KD.ps_kput (sE o g h1).1 (sE i g h2).1 (sE e g h3).1 (sw (some (.Subscript a b p1)) p.line X.env)) fun D σ H ⟨m, S, r, k, R, re, E, h⟩ => ?_
  simp only [exec] at h
  refine mkI (E.bs R re) h fun v S1 m1 H1 x1 q1 g1 b1 r1 => mkI b1 q1 fun ov S2 m2 H2 x2 q2 g2 b2 r2 => mkI b2 q2 fun iv S3 m3 H3 x3 ⟨n, l, kk, e1, e2, e3, e4, q3⟩ g3 b3 r3 => ?_
  subst e1 e4
  have r1' := RV.grow b1.rep (g2.trans g3) _ _ r1
  have r2' := RV.grow b2.rep g3 _ _ r2
  simp only [RV] at r2' r3
  obtain ⟨pa, hpa, rfl⟩ := r2'
  subst r3
  obtain ⟨ob, ks, hd, T, tr⟩ := b3.rep.rdK e2 hpa
  refine ⟨pa, ob, ks, .inl kk, rfl, hd, T, rfl, by rw [← tr.len, sz]; exact e3, KD.ints_put T.ints, fun ob' T' => ?_⟩
  obtain ⟨es, ep, vs, hdat, _⟩ := T.dat
  have gp : Grow m3 H3 m3 (upd H3 pa (TD.pin pa ob')) := Grow.put (List.mem_of_getElem? hpa) (by rw [hd]; simp)
  exact E.nx _ _ _ _ _ (q3 ob') (g1.trans (g2.trans (g3.trans gp))) (b3.rep.putK hd hdat hpa T' (tr.put r1')) (b3.re.grow b3.rep gp)
mutual
theorem sS : ∀ (t : Mp.St) {s : Stmt}, GoodS Z C W F N sc X → chkS F N sc t s = true → PS X s (tSt Z W (exec C t))
  | .exp e, s, G, h => by
    obtain ⟨x, h1, h2⟩ := anyS h
    obtain ⟨h2, h3⟩ := and2 h2
    obtain ⟨p, rfl⟩ := vExp_eq h1
    exact sS_exp G h3 h2
  | .asg tg e, s, G, h => by
    obtain ⟨⟨t, x⟩, h1, h2⟩ := anyS h
    obtain ⟨h2, h3⟩ := and2 h2
    obtain ⟨h4, h5⟩ := and2 h2
    obtain ⟨hn, h4⟩ := and2 h4
    obtain ⟨p, rfl⟩ := vAsg_eq h1
    dsimp only at h3
    split at h3
    · rename_i hl
      exact sS_asg G hn h4 h5 hl h3
    · obtain ⟨h6, h7⟩ := and2 h3
      cases e <;> first | exact absurd h6 Bool.false_ne_true | skip
      cases tg <;> first | exact absurd h7 Bool.false_ne_true | skip
      refine sS_lc G ?_ h4 h5
      obtain ⟨w, _, w2⟩ := anyS h5
      exact of_decide_eq_true (and2 (and2 (and2 (and2 (and2 (and2 (and2 w2).1).1).1).1).1).1).1
  | .par is l, s, G, h => by
    obtain ⟨⟨t, x⟩, h1, h2⟩ := anyS h
    obtain ⟨ts, h3, h2⟩ := anyS h2
    obtain ⟨vs, h4, h2⟩ := anyS h2
    obtain ⟨p, rfl⟩ := vAsg_eq h1
    obtain ⟨k1, p1, e3⟩ := vTup_eq h3
    obtain ⟨k2, p2, e4⟩ := vTup_eq h4
    dsimp only at e3 e4
    subst e3 e4
    obtain ⟨h2, q1⟩ := and2 h2
    obtain ⟨h2, q2⟩ := and2 h2
    obtain ⟨h2, q3⟩ := and2 h2
    obtain ⟨h2, q4⟩ := and2 h2
    obtain ⟨h2, q5⟩ := and2 h2
    obtain ⟨hk2, h2⟩ := and2 h2
    exact sS_par G (of_decide_eq_true hk2) h2 q5 (of_decide_eq_true q4) (by simpa using q3) (of_decide_eq_true q2) q1
  | .put o i e, s, G, h => by
    obtain ⟨⟨t, x⟩, h1, h2⟩ := anyS h
    obtain ⟨⟨a, b⟩, h3, h2⟩ := anyS h2
    obtain ⟨p, rfl⟩ := vAsg_eq h1
    obtain ⟨p1, h3⟩ := vSub_eq h3
    dsimp only at h3
    subst h3
    obtain ⟨h2, q1⟩ := and2 h2
    obtain ⟨h2, q2⟩ := and2 h2
    obtain ⟨h2, q3⟩ := and2 h2
    exact sS_put G h2 q3 q2 q1
  | .dput o i e, s, G, h => by
    obtain ⟨⟨t, x⟩, h1, h2⟩ := anyS h
    obtain ⟨⟨a, b⟩, h3, h2⟩ := anyS h2
    obtain ⟨p, rfl⟩ := vAsg_eq h1
    obtain ⟨p1, h3⟩ := vSub_eq h3
    dsimp only at h3
    subst h3
    obtain ⟨h2, q1⟩ := and2 h2
    obtain ⟨h2, q2⟩ := and2 h2
    obtain ⟨h2, q3⟩ := and2 h2
    exact sS_dput G h2 q3 q2 q1
  | .kput o i e, s, G, h => by
    obtain ⟨⟨t, x⟩, h1, h2⟩ := anyS h
    obtain ⟨⟨a, b⟩, h3, h2⟩ := anyS h2
    obtain ⟨p, rfl⟩ := vAsg_eq h1
    obtain ⟨p1, h3⟩ := vSub_eq h3
    dsimp only at h3
    subst h3
    obtain ⟨h2, q1⟩ := and2 h2
    obtain ⟨h2, q2⟩ := and2 h2
    obtain ⟨h2, q3⟩ := and2 h2
    exact sS_kput G h2 q3 q2 q1
  | .ret e, s, G, h => by
    obtain ⟨o, h1, h2⟩ := anyS h
    obtain ⟨x, rfl, h2⟩ := anyS h2
    obtain ⟨p, rfl⟩ := vRet_eq h1
    refine PSi (ps_ret (sE e G.g h2).1) fun D σ H ⟨m, S, r, k, R, re, E, h⟩ => ?_
    simp only [exec] at h
    exact mkI (E.bs R re) h fun v S1 m1 H1 x1 q1 g1 b1 r1 => E.rt _ _ _ _ _ q1 g1 b1.rep r1
  | .retN, s, G, h => by
    obtain ⟨o, h1, h2⟩ := anyS h
    obtain ⟨p, rfl⟩ := vRet_eq h1
    obtain rfl := Option.isNone_iff_eq_none.mp h2
    refine PSi ps_retN fun D σ H ⟨m, S, r, k, R, re, E, h⟩ => ?_
    simp only [exec] at h
    exact E.rt _ _ _ _ _ h Grow.refl R (by simp only [RV])
  | .ite c a b, s, G, h => by
    obtain ⟨⟨cx, ax, bx⟩, h1, h2⟩ := anyS h
    obtain ⟨h2, h3⟩ := and2 h2
    obtain ⟨h4, h5⟩ := and2 h2
    obtain ⟨p, rfl⟩ := vIfS_eq h1
    refine PSi (ps_if (sE c G.g h4).2 (sSs a G h5) (sSs b G h3)) fun D σ H ⟨m, S, r, k, R, re, E, h⟩ => ?_
    simp only [exec] at h
    refine mkT (E.bs R re) h fun v S1 m1 H1 ⟨t, q0, q1⟩ g1 b1 => ⟨t, q0, ?_⟩
    cases t with
    | true => rw [if_pos rfl] at q1 ⊢; exact ⟨m1, S1, r, k, b1.rep, b1.re, E.grow g1, q1⟩
    | false => rw [if_neg (by decide)] at q1 ⊢; exact ⟨m1, S1, r, k, b1.rep, b1.re, E.grow g1, q1⟩
  | .whl c b, s, G, h => by
    obtain ⟨⟨cx, bx⟩, h1, h2⟩ := anyS h
    obtain ⟨h2, h3⟩ := and2 h2
    obtain ⟨p, rfl⟩ := vWhl_eq h1
    refine PSi (ps_while G.po (sE c G.g h2).2 (sSs b G h3)) fun D σ H ⟨m, S, r, k, R, re, E, h⟩ => ?_
    simp only [exec] at h
    obtain ⟨n, h⟩ := h
    refine ⟨fun n σ' H' => ∃ m2 S2 r2, Grow m H m2 H' ∧ Rep Z m2 S2 H' ∧ RE Z H' m2 r2 σ' ∧ whlL (fun r S Q => ev C c r S (fun x S1 => ∃ t, truV S1 x = some t ∧ Q t S1) (fun x S1 => k.ex x r S1)) (fun r S K => execs C b r S { k with nx := K, ct := K, bk := k.nx }) k.nx n r2 S2, ⟨n, m, S, r, Grow.refl, R, re, h⟩, ?_⟩
    rintro n σ' H' ⟨m2, S2, r2, g2, R2, re2, h⟩
    cases n with
    | zero => exact h.elim
    | succ n =>
      refine mkT ((E.grow g2).bs R2 re2) h fun v S3 m3 H3 ⟨t, q0, q1⟩ g3 b3 => ⟨t, q0, ?_⟩
      cases t with
      | true =>
        rw [if_pos rfl] at q1 ⊢
        refine ⟨_, fun σ4 H4 q => ⟨n, Nat.lt_succ_self n, q⟩, m3, S3, r2, _, b3.rep, b3.re, ?_, q1⟩
        have E3 := E.grow (g2.trans g3)
        exact ⟨fun r' S' m' H' σ' q g R re => ⟨m', S', r', (g2.trans g3).trans g, R, re, q⟩, E3.rt, E3.nx, fun r' S' m' H' σ' q g R re => ⟨m', S', r', (g2.trans g3).trans g, R, re, q⟩, E3.ex⟩
      | false =>
        rw [if_neg (by decide)] at q1 ⊢
        exact E.nx _ _ _ _ _ q1 (g2.trans g3) b3.rep b3.re
  | .for tg it b, s, G, h => by
    obtain ⟨⟨tx, ix, bx⟩, h1, h2⟩ := anyS h
    obtain ⟨h2, h3⟩ := and2 h2
    obtain ⟨h2, h4⟩ := and2 h2
    obtain ⟨h5, h6⟩ := and2 h2
    obtain ⟨hk2, h5⟩ := and2 h5
    have hk2 := of_decide_eq_true hk2
    obtain ⟨p, rfl⟩ := vFor_eq h1
    have g := G.g
    have hi := sI it (tg := tx) g (fun ht => by
      rw [Bool.or_eq_true] at h6
      rcases h6 with q | q
      · rw [ht] at q; cases q
      · exact q) h4
    have hg := sdT (Z := Z) (X := X) g.hK (fun _ => g.calm hk2) (by rw [g.hN]; exact g.nd) G.tg h5
    refine PSi (ps_for G.po (g.calm hk2) hi.1 hg (sSs b G h3) (fun v => fold_ok hi.2 X.env v)) fun D σ H ⟨m, S, r, k, R, re, E, h⟩ => ?_
    simp only [exec] at h
    refine ⟨m, S, r, _, _, E.bs R re, h, fun l gg S1 m1 H1 J hq g1 R1 wk => ?_⟩
    obtain ⟨GG, Y, hw, hG, hY⟩ := wk.ex
    refine for_it hw (fun i σ' H' => ∃ m2 S2 r2, Grow m1 H1 m2 H' ∧ Rep Z m2 S2 H' ∧ RE Z H' m2 r2 σ' ∧ forL gg (fun v r S K => asgT tg v r fun r2 => execs C b r2 S { k with nx := K, ct := K, bk := k.nx }) k.nx (l.drop i) r2 S2) ?_ ?_ ?_ ?_
    · exact ⟨m1, S1, r, Grow.refl, R1, re.grow R g1, hq⟩
    · rintro i σ' H' _ ⟨m2, S2, r2, g2, R2, re2, hl⟩
      refine hG m2 S2 H' g2 R2 ?_
      cases q : l.drop i with
      | nil => rw [q] at hl; exact hl.1
      | cons _ _ => rw [q] at hl; exact hl.1
    · rintro i x σ' H' H'' hi ⟨m2, S2, r2, g2, R2, re2, hl⟩ hy
      have hd : l.drop i = l[i] :: l.drop (i + 1) := List.drop_eq_getElem_cons hi
      rw [hd] at hl
      obtain ⟨hgg, hl⟩ := hl
      obtain ⟨g3, R3, rx⟩ := hY i l[i] m2 S2 H' x H'' (List.getElem?_eq_getElem hi) g2 R2 hgg hy
      refine ⟨m2, S2, r2, l[i], _, R3, re2.grow R2 g3, rx, hl, fun r' σ2 hk re' _ => ⟨m2, S2, r', _, R3, re', ?_, hk⟩⟩
      have E3 := E.grow ((g1.trans g2).trans g3)
      exact ⟨fun r' S' m' H' σ' q g R re => ⟨m', S', r', (g2.trans g3).trans g, R, re, q⟩, E3.rt, E3.nx, fun r' S' m' H' σ' q g R re => ⟨m', S', r', (g2.trans g3).trans g, R, re, q⟩, E3.ex⟩
    · rintro σ' H' ⟨m2, S2, r2, g2, R2, re2, hl⟩
      rw [List.drop_length] at hl
      exact E.nx _ _ _ _ _ hl.2 (g1.trans g2) R2 re2
  | .pass, s, G, h => by
    cases s <;> first | exact absurd h Bool.false_ne_true | skip
    refine PSi ps_pass fun D σ H ⟨m, S, r, k, R, re, E, h⟩ => ?_
    simp only [exec] at h
    exact E.nx _ _ _ _ _ h Grow.refl R re
  | .brk, s, G, h => by
    cases s <;> first | exact absurd h Bool.false_ne_true | skip
    refine PSi ps_break fun D σ H ⟨m, S, r, k, R, re, E, h⟩ => ?_
    simp only [exec] at h
    exact E.bk _ _ _ _ _ h Grow.refl R re
  | .cont, s, G, h => by
    cases s <;> first | exact absurd h Bool.false_ne_true | skip
    refine PSi ps_continue fun D σ H ⟨m, S, r, k, R, re, E, h⟩ => ?_
    simp only [exec] at h
    exact E.ct _ _ _ _ _ h Grow.refl R re
  | .raise c (.cons a l), s, G, h => by
    simp only [chkS] at h
    obtain ⟨⟨n, es⟩, h1, h2⟩ := anyS h
    obtain ⟨h2, h8⟩ := and2 h2
    obtain ⟨h2, h9⟩ := and2 h2
    obtain ⟨h2, h3⟩ := and2 h2
    obtain ⟨h2, h4⟩ := and2 h2
    obtain ⟨h2, h5⟩ := and2 h2
    obtain ⟨h6, h7⟩ := and2 h2
    obtain ⟨p1, p3, p4, rfl⟩ := vRaiseA_eq h1
    dsimp only at h8 h9 h4 h5 h7
    have hk2 := of_decide_eq_true h6
    have en : n = Str.ofString c := of_decide_eq_true h7
    obtain ⟨hr2, hxi⟩ := G.xi hk2
    obtain ⟨hz, Cc, fI, fd, ps, hx⟩ := hxi c (List.contains_iff_mem.mp h3)
    cases es with
    | nil => cases h8
    | cons x xs =>
      have ok := chks_ok h9
      have ha := (sEs (.cons a l) G.g h9).1
      have hm := pmk_oex (CX := L2.CX X.prog X.w) (x := n) (p := p1) (pos := p3) (dvs := []) (ds := []) hx.ox hx.iC hx.tI hx.fn hr2 hx.bd .nil (passes_call (E := fun _ _ _ => False) G.g.tk fun _ _ _ _ z => z.elim) (glB_g (by rw [G.g.hsc]; exact h5)) (by rw [en]; exact hx.gm) ha (okB_d h4).1 (star_ok (ok x List.mem_cons_self) _ _) (stars_no _ _ fun y hy => ok y (List.mem_cons_of_mem _ hy))
      refine PSi (ps_raise (pos := p4) (G.g.calm hk2) G.g.tk hm) fun D σ H ⟨m, S, r, k, R, re, E, h⟩ => ?_
      simp only [exec] at h
      refine mkL (PX := fun e S' => k.ex e r S') ⟨R, re, fun e S' m' H' cls d q g R' rx => E.ex e r S' m' H' σ cls d q g R' (re.grow R g) rx⟩ h fun vs S1 m1 H1 xs' ⟨i, j, ev, hq⟩ g1 b1 r1 => ?_
      subst ev
      simp only [RVs, RV] at r1
      obtain ⟨x1, r2, e1, rfl, x2, r3, e2, rfl, rfl⟩ := r1
      subst e2
      subst e1
      refine ⟨by simp, fun ad hn => ?_⟩
      refine ⟨ad, Cc, .int i, .int j, by simp, hx.ox, hx.f1, hx.f2, upd_same, fun d hd hne => ⟨rfl, d, _, by rw [upd_ne (Ne.symm hne), upd_same], upd_same, by rw [upd_ne hne] at hd; exact hd, ?_⟩⟩
      have hd0 : H1 d = none := by rw [upd_ne hne] at hd; exact hd
      have eH : upd (del (upd (upd (upd (upd H1 ad (exo ad Cc none)) d (exd d [(Str.ofString "many", V.int i)])) ad (exo ad Cc (some d))) d (exd d [(Str.ofString "most", V.int j), (Str.ofString "many", V.int i)])) ad) d (.xd [(Str.ofString "most", V.int j), (Str.ofString "many", V.int i)]) = upd H1 d (.xd (fsV i j)) := by
        funext b
        by_cases hb : b = d
        · subst hb
          rw [upd_same, upd_same]
          rfl
        · rw [upd_ne hb, upd_ne hb]
          by_cases hb2 : b = ad
          · subst hb2
            rw [del_same, hn]
          · rw [del_ne hb2, upd_ne hb, upd_ne hb2, upd_ne hb, upd_ne hb2]
      rw [eH]
      exact E.ex _ _ _ _ _ _ _ _ hq (g1.trans (Grow.new hd0)) (b1.rep.new hd0) (re.grow R (g1.trans (Grow.new hd0))) ⟨Cc, by rw [← G.g.hmg]; exact hx.gm, rfl, .inr ⟨i, j, d, rfl, hz, rfl, upd_same⟩⟩
  | .raise c .nil, s, G, h => by
    by_cases hc : c = ""
    · exact PSi ps_never fun D σ H ⟨m, S, r, k, R, re, E, h⟩ => by
        simp only [exec] at h
        exact h.1 hc
    · simp only [chkS, Bool.or_eq_true] at h
      have h2 := h.resolve_left fun q => hc (of_decide_eq_true q)
      obtain ⟨⟨n, tx⟩, h1, h2⟩ := anyS h2
      obtain ⟨h2, h3⟩ := and2 h2
      obtain ⟨h2, h4⟩ := and2 h2
      obtain ⟨h2, h5⟩ := and2 h2
      obtain ⟨h6, h7⟩ := and2 h2
      obtain ⟨p1, kk, p2, p3, p4, rfl⟩ := vRaise_eq h1
      have hk2 := of_decide_eq_true h6
      have en : n = Str.ofString c := of_decide_eq_true h7
      obtain ⟨hz, Cc, hx⟩ := G.g.xn c (List.contains_iff_mem.mp h3)
      have hr := ps_raise (pos := p4) (G.g.calm hk2) G.g.tk (pmk_own (x := n) (m := tx) (j := kk) (p := p1) (p2 := p2) (pos := p3) PySem.F.excBase_ValueError hx.ex (by rw [en]; exact hx.mg) hx.kp hx.rs (glB_g (by rw [G.g.hsc]; exact h5)) (okB_d h4).1)
      refine PSi hr fun D σ H ⟨m, S, r, k, R, re, E, h⟩ => ?_
      simp only [exec] at h
      refine E.ex _ _ _ _ _ _ _ _ h.2 Grow.refl R re ⟨Cc, ?_, rfl, .inl ⟨rfl, hz, rfl⟩⟩
      rw [← G.g.hmg]
      exact hx.mg
theorem sSs : ∀ (t : Ss) {s : List Stmt}, GoodS Z C W F N sc X → chkSs F N sc t s = true → PSs X s (tSt Z W (execs C t))
  | .nil, s, G, h => by
    have e : s = [] := by simpa [chkSs] using h
    subst e
    refine PSsi pss_nil fun D σ H ⟨m, S, r, k, R, re, E, h⟩ => ?_
    simp only [execs] at h
    exact E.nx _ _ _ _ _ h Grow.refl R re
  | .cons t l, [], G, h => absurd h (by simp [chkSs])
  | .cons t l, s :: ss, G, h => by
    simp only [chkSs] at h
    obtain ⟨h1, h2⟩ := and2 h
    refine PSsi (pss_cons (sS t G h1) (sSs l G h2)) fun D σ H ⟨m, S, r, k, R, re, E, h⟩ => ?_
    simp only [execs] at h
    refine ⟨m, S, r, _, R, re, ?_, h⟩
    exact ⟨fun r' S' m' H' σ' q g R re => ⟨m', S', r', k, R, re, E.grow g, q⟩, E.rt, E.bk, E.ct, E.ex⟩
end
end
end Mp

set_option Elab.async false
set_option linter.all false
set_option maxRecDepth 100000
set_option autoImplicit false
set_option maxHeartbeats 2000000
/-! Mini18: what runs under a handled exception: _law_kind, the suite of _law_said. -/
namespace Mp
open PySem PySem.Spec PyProof.Rows L2
/-! ### an own __init__ of an error class: StepError.__init__(self, many, most), self.many = many, self.most = most -/
def slotB (N : List Str) (sc : Scope) (i : Nat) (e : Expr) : Bool := (vName e).any fun x => decide (N[i]? = some x) && lonB sc x && okB x
def asgFB (N : List Str) (sc : Scope) (f : String) (i : Nat) (s : Stmt) : Bool := (vAsg s).any fun v => (vAttr v.1).any fun w => slotB N sc 0 w.1 && decide (w.2 = Str.ofString f) && slotB N sc i v.2
def iniB (N : List Str) (sc : Scope) (body : List Stmt) : Bool := match body with
  | [s1, s2, s3] => ((vExp s1).any fun x => (vMet x).any fun v => (vName v.1).any (fun n => decide (n = Str.ofString "StepError") && glB sc n) && decide (v.2.1 = Str.ofString "__init__") && v.2.2.2 &&
      (match v.2.2.1 with | [y0, y1, y2] => slotB N sc 0 y0 && slotB N sc 1 y1 && slotB N sc 2 y2 | _ => false)) && asgFB N sc "many" 1 s2 && asgFB N sc "most" 2 s3
  | _ => false
structure SeF (K : PySem.W.Frag) (mg : Str → Option Value) (SE : Addr) : Prop where
  gm : mg (Str.ofString "StepError") = some (.ref SE)
  rd : PySem.W.readsIn K SE (.type "type") = true
  ga : PySem.W.specialIn K (.ref SE) "__getattribute__" = some (some (.builtin "type.__getattribute__"))
  vi : PySem.W.findCls K (.ref SE) (.type "type") (Str.ofString "__init__") = some (.val (.builtin "ValueError.__init__"))
theorem pe_oinit {X : Cx} {SE : Addr} {e : Expr} {es : List Expr} {ta : TA} {p1 p2 pos : Pos} (T : SeF X.K X.mg SE) (hg : Gl X (Str.ofString "StepError")) (ha : PA X (e :: es) ta)
    (hfew : ((backTo pos (starEach (e :: es) X.env)).all (fun x => !x.1) && (backToKw pos (keywordEach [] X.env)).all (fun x => x.1.isSome)
      && decide ((e :: es).length + ([] : List Keyword).length + (if ([] : List Keyword).isEmpty then 0 else 1) < 30)) = true) (hline : (p2.endLine == pos.line) = true)
    (he : starEach (e :: es) X.env = (false, eval e X.env) :: starEach es X.env := by rfl) (hpl : (backTo pos (starEach es X.env)).any (·.1) = false := by rfl) :
    PE X (.Call (.Attribute (.Name (Str.ofString "StepError") p1) (Str.ofString "__init__") p2) (e :: es) [] pos) (tVeI X.K ta) := by
  refine ⟨fun pins s σ H Q I h => ?_⟩
  have hbase : attributeBase (.Name (Str.ofString "StepError") p1) (Str.ofString "__init__") X.env (eval (.Name (Str.ofString "StepError") p1) X.env) = eval (.Name (Str.ofString "StepError") p1) X.env := by rfl
  rw [arm_eval_Call, hbase]
  refine wpAny_bind (ld_glob I hg T.gm ?_ (by decide))
  refine wpAny_bind (wpAny_standAt ?_)
  have hform : methodCallForm ((e :: es).length + ([] : List Keyword).length) (backTo pos (starEach (e :: es) X.env)) (backToKw pos (keywordEach [] X.env)) = true := hfew
  have hpos : methodCallPos true (.Name (Str.ofString "StepError") p1) X.env p2 pos = pure pos := by unfold methodCallPos; simp [hline]
  unfold methodCall
  rw [hform]
  refine wpAny_bind (wpAny_holding ?_)
  refine PySem.W.method_cls I.kIn T.ga ?_
  refine PySem.W.cls_value I.kIn T.rd T.vi (by decide +kernel) ?_
  refine wpAny_bind (wpAny_of_eq hpos ?_)
  show wpAny _ _ (callWith pos (Value.builtin "ValueError.__init__") [] (backTo pos (starEach (e :: es) X.env)) []) _ _ _
  refine PyProof.Rows.callWith_method1 (thn (ha.run pos pins _ σ H _ (I.tok _) h) fun us s1 ⟨vs, H1, I1, r1, a, C, ws, ev, hl, T, ea, q⟩ => ?_) he hpl
  subst ev
  cases r1 with
  | @cons _ u0 _ ur ra rw' =>
    obtain rfl : u0 = Value.ref a := ra
    have hlen : ur.length ≤ sizeLine := by
      rw [← Paired.length rw', sizeLine_eq]
      omega
    exact oinit_ok T I1 ea hlen fun s' J => ⟨.non, H1, J, rfl, q⟩
theorem slotB_ok {N : List Str} {sc : Scope} {i : Nat} {e : Expr} {X : Cx} (h : slotB N sc i e = true) (hN : X.N = N) (hsc : X.env.scope = sc) : ∃ x p, e = .Name x p ∧ PE X e (tVar i) := by
  obtain ⟨x, e1, h⟩ := anyS h
  obtain ⟨h, h3⟩ := and2 h
  obtain ⟨h1, h2⟩ := and2 h
  obtain ⟨p, rfl⟩ := vName_eq e1
  obtain ⟨d1, d2, _⟩ := okB_d h3
  exact ⟨x, p, rfl, pe_var (by rw [hN]; exact of_decide_eq_true h1) (.inl (by rw [hsc]; exact lon_l h2)) d1 d2⟩
theorem iniOk {P : Program} {w : World} {K : PySem.W.Frag} {mg : Str → Option Value} {base : Heap} {f SE : Addr} {name qual : Str} {params : Arguments} {body : List Stmt} {scope : Scope} {dV kV doc pm cdv ct oc : Value} {an od : Option Addr} {osl : Array (Option Value)} {N ps : List Str}
    (lk : K.lookup f = some ⟨oc, od, .func (PySem.W.fnOf name qual params body scope dV kV doc pm an cdv ct), osl⟩) (hcd : PySem.W.codeIn K cdv qual = true) (S : FnScope N ps scope) (hps : ps.length = 3) (hN3 : N.length = 3) (T : SeF K mg SE) (hB : iniB N scope body = true) :
    FnOk P w K mg base (L2.CX P w) 1 f (PySem.W.fnOf name qual params body scope dV kV doc pm an cdv ct) ps (spIni K) := by
  refine ⟨fun vs H Q E ⟨a, C, x, y, ev, _⟩ => by rw [ev, hps]; rfl, fun A outer s H args us vs Q E hr e0 hb r hsp => ?_⟩
  have hl : vs.length = ps.length := by
    obtain ⟨a, C, x, y, ev, _⟩ := hsp
    rw [ev, hps]
    rfl
  refine LamX.run_ofS (k := 0) lk hcd S hr e0 hb r hl fun room => ?_
  unfold iniB at hB
  split at hB
  · rename_i s1 s2 s3
    obtain ⟨hB, h3⟩ := and2 hB
    obtain ⟨h1, h2⟩ := and2 hB
    obtain ⟨x1, e1, h1⟩ := anyS h1
    obtain ⟨v1, e2, h1⟩ := anyS h1
    obtain ⟨h1, h4⟩ := and2 h1
    obtain ⟨h1, h17⟩ := and2 h1
    obtain ⟨h1, h5⟩ := and2 h1
    obtain ⟨n, e3, h6⟩ := anyS h1
    obtain ⟨h6, h7⟩ := and2 h6
    obtain ⟨q1, rfl⟩ := vExp_eq e1
    obtain ⟨q2, q3, rfl, hln⟩ := vMet_eq e2
    obtain ⟨o1, m1, as, b1⟩ := v1
    dsimp only at h4 h5 e3 h17 hln
    rw [hln] at h17
    obtain ⟨q4, rfl⟩ := vName_eq e3
    have hn : n = Str.ofString "StepError" := of_decide_eq_true h6
    have hm : m1 = Str.ofString "__init__" := of_decide_eq_true h5
    subst hn hm
    split at h4
    · rename_i y0 y1 y2
      obtain ⟨h4, h8⟩ := and2 h4
      obtain ⟨h9, h10⟩ := and2 h4
      obtain ⟨v2, e4, h2⟩ := anyS h2
      obtain ⟨w2, e5, h2⟩ := anyS h2
      obtain ⟨h2, h11⟩ := and2 h2
      obtain ⟨h12, h13⟩ := and2 h2
      obtain ⟨q5, rfl⟩ := vAsg_eq e4
      obtain ⟨t2, z2⟩ := v2
      obtain ⟨o2, f2⟩ := w2
      dsimp only at e5 h11 h12 h13
      obtain ⟨q6, rfl⟩ := vAttr_eq e5
      have hf2 : f2 = Str.ofString "many" := of_decide_eq_true h13
      subst hf2
      obtain ⟨v3, e6, h3⟩ := anyS h3
      obtain ⟨w3, e7, h3⟩ := anyS h3
      obtain ⟨h3, h14⟩ := and2 h3
      obtain ⟨h15, h16⟩ := and2 h3
      obtain ⟨q7, rfl⟩ := vAsg_eq e6
      obtain ⟨t3, z3⟩ := v3
      obtain ⟨o3, f3⟩ := w3
      dsimp only at e7 h14 h15 h16
      obtain ⟨q8, rfl⟩ := vAttr_eq e7
      have hf3 : f3 = Str.ofString "most" := of_decide_eq_true h16
      subst hf3
      have sl : ∀ {i : Nat} {e : Expr}, slotB N scope i e = true → ∃ x p, e = .Name x p ∧ PE (cxOf (L2.CX P w) P w K mg base N qual scope f cdv A outer s H E) e (tVar i) := fun h => slotB_ok h rfl rfl
      obtain ⟨x0, p0, rfl, P0⟩ := sl h9
      obtain ⟨x1, p1, rfl, P1⟩ := sl h10
      obtain ⟨x2, p2, rfl, P2⟩ := sl h8
      obtain ⟨x3, p3, rfl, P3⟩ := sl h12
      obtain ⟨x4, p4, rfl, P4⟩ := sl h11
      obtain ⟨x5, p5, rfl, P5⟩ := sl h15
      obtain ⟨x6, p6, rfl, P6⟩ := sl h14
      have st1 := ps_expr (pos := q1) (pe_oinit (X := cxOf (L2.CX P w) P w K mg base N qual scope f cdv A outer s H E) (p1 := q4) (p2 := q2) (pos := q3) T (glB_g h7) (pa_cons P0 (pa_cons P1 (pa_cons P2 pa_nil rfl) rfl) rfl) (by rfl) h17)
      have st2 := ps_ost (pos := q5) (p' := q6) (f := Str.ofString "many") P3 P4
      have st3 := ps_ost (pos := q7) (p' := q8) (f := Str.ofString "most") P5 P6
      refine ⟨_, pss_cons st1 (pss_cons st2 (pss_one st3)), ?_⟩
      obtain ⟨a, C, x, y, ev, TC, f1, f2, ha, hq⟩ := hsp
      subst ev
      have start : L2.start N [V.ref a, x, y] = [some (.ref a), some x, some y] := by
        unfold L2.start
        rw [hN3]
        rfl
      rw [start]
      refine ⟨_, rfl, _, rfl, _, rfl, ⟨a, C, [x, y], rfl, by simp, TC, ha, ?_⟩⟩
      refine ⟨_, rfl, _, rfl, a, C, rfl, TC, f1, .inl ⟨ha, fun d hd hne => ?_⟩⟩
      refine ⟨_, rfl, _, rfl, a, C, rfl, TC, f2, .inr ⟨d, [(Str.ofString "many", x)], upd_same, by rw [upd_ne hne, upd_same], by simp, hq d hd hne⟩⟩
    · cases h4
  · cases hB
/-! ### under a handled exception -/
/-- the calls there: isinstance of the exception, its word, whether a field is a whole number, the fields -/
def hotC (a : Addr) (c : String) (fs : List Int) : Call := fun f vs S Q _ => (f = "exn" ∧ vs = [.exn a c]) ∨ (f = "_law_kind" ∧ vs = [.exn a c] ∧ ∃ w, kindX c = some w ∧ ∀ T, Q (.str (Str.ofString w)) (S ++ T)) ∨
  (f = "_law_whole" ∧ (∃ i, vs = [.int i]) ∧ ∀ T, Q (.bl true) (S ++ T)) ∨ (∃ i j, fs = [i, j] ∧ vs = [.exn a c] ∧ ((f = "." ++ "many" ∧ Q (.int i) S) ∨ (f = "." ++ "most" ∧ Q (.int j) S)))
theorem hotC_exn {a a' : Addr} {c c' : String} {fs : List Int} {S : Sto} {Q : QV} {X : QX} (h : hotC a c fs "exn" [.exn a' c'] S Q X) : a' = a ∧ c' = c := by
  rcases h with ⟨_, h⟩ | ⟨h, _⟩ | ⟨h, _⟩ | ⟨i, j, _, _, ⟨h, _⟩ | ⟨h, _⟩⟩
  · cases h; exact ⟨rfl, rfl⟩
  · exact absurd h (by decide)
  · exact absurd h (by decide)
  · exact absurd h (by decide)
  · exact absurd h (by decide)
theorem hotC_fld {a : Addr} {c x : String} {fs : List Int} {v : Val} {S : Sto} {Q : QV} {X : QX} (hx : x = "many" ∨ x = "most") (h : hotC a c fs ("." ++ x) [v] S Q X) : ∃ i j k, fs = [i, j] ∧ v = .exn a c ∧ Q (.int k) S ∧ ((x = "many" ∧ k = i) ∨ (x = "most" ∧ k = j)) := by
  rcases hx with rfl | rfl
  all_goals
    rcases h with ⟨h, _⟩ | ⟨h, _⟩ | ⟨h, _⟩ | ⟨i, j, e, ev, ⟨h, q⟩ | ⟨h, q⟩⟩
    · exact absurd h (by decide)
    · exact absurd h (by decide)
    · exact absurd h (by decide)
    all_goals first | exact absurd h (by decide) | (cases ev; exact ⟨i, j, _, e, rfl, q, by simp⟩)
theorem keepIn_fn {K : PySem.W.Frag} {a : Addr} {oc : Value} {od : Option Addr} {fd : FuncData} {osl : Array (Option Value)} (h : K.lookup a = some ⟨oc, od, .func fd, osl⟩) : PySem.W.keepIn K (.ref a) = true := by
  unfold PySem.W.keepIn
  simp only [h]
theorem startE_re {Z : Zt} {H : Hp} {m : List Addr} {d : FDef} {N : List Str} {args : List Val} {vs : List V} (hn : d.nv = N.length) (r : RVs Z.K H m args vs) : RE Z H m (startE d args) (L2.start N vs) := by
  have hl := r.len
  unfold startE L2.start
  refine ⟨by simp [hl, hn], fun i v h => ?_⟩
  by_cases hi : i < args.length
  · rw [List.getElem?_append_left (by rw [List.length_map]; exact hi), List.getElem?_map] at h
    rw [List.getElem?_append_left (by rw [List.length_map, ← hl]; exact hi), List.getElem?_map]
    have h2 : args[i]? = some v := by
      cases q : args[i]? with
      | none => rw [q] at h; cases h
      | some u => rw [q] at h; simpa using h
    obtain ⟨x, e, rx⟩ := r.get h2
    exact ⟨x, by rw [e]; rfl, rx⟩
  · rw [List.getElem?_append_right (by rw [List.length_map]; omega), List.getElem?_replicate] at h
    split at h <;> cases h
/-- what the module tells of its classes of errors -/
structure ClsK (K : PySem.W.Frag) (mg : Str → Option Value) (xs xi cls : List String) (SE : Addr) : Prop where
  se : mg (Str.ofString "StepError") = some (.ref SE)
  xn : ∀ c, c ∈ xs ∨ c ∈ xi → ∃ Cc, mg (Str.ofString c) = some (.ref Cc) ∧ ExcC K Cc ∧ PySem.W.kitOne K (.ref Cc) (.type "ValueError") = some true ∧ PySem.W.exmOne K (.ref Cc) (.ref SE) = some true ∧
    ∀ T ∈ cls, ∃ D, mg (Str.ofString T) = some (.ref D) ∧ PySem.W.keepIn K (.ref D) = true ∧ PySem.W.kitOne K (.ref Cc) (.ref D) = some (isxB c T)
  xf : ∀ c ∈ xi, ∃ Cc, mg (Str.ofString c) = some (.ref Cc) ∧ XfC K Cc ∧ PySem.W.findIn K (.ref Cc) (Str.ofString "many") = some none ∧ PySem.W.findIn K (.ref Cc) (Str.ofString "most") = some none
  cl : ∀ T ∈ cls, ∃ D, mg (Str.ofString T) = some (.ref D)
theorem fsV_many (i j : Int) : (fsV i j).lookup (Str.ofString "many") = some (.int i) := by
  unfold fsV
  rw [List.lookup_cons, List.lookup_cons]
  have h1 : (Str.ofString "many" == Str.ofString "most") = false := by decide
  have h2 : (Str.ofString "many" == Str.ofString "many") = true := by decide
  rw [h1, h2]
theorem fsV_most (i j : Int) : (fsV i j).lookup (Str.ofString "most") = some (.int j) := by
  unfold fsV
  rw [List.lookup_cons]
  have h2 : (Str.ofString "most" == Str.ofString "most") = true := by decide
  rw [h2]
/-- the context of a text under a handled exception -/
theorem good2 {Z : Zt} {F : Facts} {N : List Str} {sc : Scope} {X : Cx} {W : WX} {a0 : Addr} {c0 : String} {fs : List Int} (hk : F.kind = 2) (hx : F.xns = []) (hcn : F.cns = []) (hK : X.K = Z.K) (hmg : X.mg = Z.mg) (hN : X.N = N) (hsc : X.env.scope = sc) (nd : N.Nodup) (hu : X.A.units + 64 < cLine) (tk : Takes X W)
    (fr : ∀ x ∈ F.frs, X.mg (Str.ofString x) = none) (cl : ∀ T ∈ F.cls, ∃ D, X.mg (Str.ofString T) = some (.ref D))
    (fnx : ∀ f ∈ F.fns, ∃ p k a fd ps, p ∈ X.pn ∧ FnX X.prog X.w X.K X.mg X.base p k a fd ps (spI Z (hotC a0 c0 fs) f) ∧ L2H.RoomH k X.A ∧ X.mg (Str.ofString f) = some (.ref a) ∧ PySem.W.keepIn X.K (.ref a) = true ∧ Binds X.K fd ps [])
    (ex : ExF Z X F a0 c0) (fl : F.fld = true → ∀ i j, fs = [i, j] → FldF Z X a0 "many" i ∧ FldF Z X a0 "most" j) : Good Z (hotC a0 c0 fs) W F N sc X where
  hK := hK
  hmg := hmg
  hN := hN
  hsc := hsc
  nd := nd
  calm := fun h => absurd hk h
  gd := fun h => by rw [hk] at h; cases h
  hu := hu
  tk := tk
  fn := fun h => absurd hk h
  cn := fun p hp => by rw [hcn] at hp; cases hp
  fr := fr
  xn := fun c hc => by rw [hx] at hc; cases hc
  cl := cl
  said := fun h => by rw [hk] at h; cases h
  fnx := fun _ => fnx
  exn := fun _ a c S Q QX h => by
    obtain ⟨rfl, rfl⟩ := hotC_exn h
    exact ex
  fld := fun _ hfl x hx v S Q QX h => by
    obtain ⟨i, j, k, e, rfl, q, hk⟩ := hotC_fld hx h
    obtain ⟨f1, f2⟩ := fl hfl i j e
    rcases hk with ⟨rfl, rfl⟩ | ⟨rfl, rfl⟩
    · exact ⟨a0, c0, _, rfl, q, f1⟩
    · exact ⟨a0, c0, _, rfl, q, f2⟩
  fv := fun h => absurd hk h
  sm := fun h => absurd hk h
  dc := fun h => absurd hk h
/-- a def that the suite calls keeps its promise -/
theorem fnX_of {P : Program} {w : World} {Z : Zt} {base : Heap} {F : Facts} {k : Nat} {f : Addr} {name qual : Str} {params : Arguments} {body : List Stmt} {scope : Scope} {dV kV doc pm cdv ct oc : Value} {an od : Option Addr} {osl : Array (Option Value)} {N ps : List Str} {d : FDef} {a0 : Addr} {oe : PySem.Obj} {c0 : String} {fs : List Int} {Cc : Addr} {dd : Option Addr}
    {g0 : String} {args0 : List Val → Prop} {ans : Val → Prop}
    (lk : Z.K.lookup f = some ⟨oc, od, .func (PySem.W.fnOf name qual params body scope dV kV doc pm an cdv ct), osl⟩) (hcd : PySem.W.codeIn Z.K cdv qual = true) (Sc : FnScope N ps scope)
    (hp : d.np = ps.length) (hn : d.nv = N.length) (hc : chkSs F N scope d.body body = true) (hk : F.kind = 2) (hf : F.fns = []) (hx : F.xns = []) (hcn : F.cns = []) (hfl : F.fld = false) (fr : ∀ x ∈ F.frs, Z.mg (Str.ofString x) = none) (cl : ∀ T ∈ F.cls, ∃ D, Z.mg (Str.ofString T) = some (.ref D))
    (hz : Zc (.ref Cc) dd oe) (hdd : ∀ d, dd = some d → ∃ gs, (d, gs) ∈ Z.xd) (hd : ∃ vs, oe.data = .fields vs) (hC : ExcC Z.K Cc) (hV : PySem.W.kitOne Z.K (.ref Cc) (.type "ValueError") = some true)
    (hT : ∀ T ∈ F.cls, ∃ D, Z.mg (Str.ofString T) = some (.ref D) ∧ PySem.W.keepIn Z.K (.ref D) = true ∧ PySem.W.kitOne Z.K (.ref Cc) (.ref D) = some (isxB c0 T))
    (hot : ∀ vs S Q X, hotC a0 c0 fs g0 vs S Q X → args0 vs ∧ ∀ v, ans v → ∀ T, Q v (S ++ T))
    (plain : ∀ vs S, args0 vs → runF (hotC a0 c0 fs) d vs S (fun v S' => ans v ∧ ∃ T, S' = S ++ T) fun _ _ => False) :
    FnX P w Z.K Z.mg base (a0, oe) (k + 1) f (PySem.W.fnOf name qual params body scope dV kV doc pm an cdv ct) ps (spI Z (hotC a0 c0 fs) g0) := by
  have one : ∀ {vs : List V} {H : Hp} {Q : VK} {E : XK}, spI Z (hotC a0 c0 fs) g0 vs H Q E → ∃ (args : List Val) (m : List Addr) (St : Sto) (PP : QV), args0 args ∧ Rep Z m St H ∧ RVs Z.K H m args vs ∧ (∀ v, ans v → ∀ T, PP v (St ++ T)) ∧ KV Z m H PP Q := by
    rintro vs H Q E ⟨m, St, args, PP, PX, R, rv, h, kv, _⟩
    obtain ⟨h1, h2⟩ := hot _ _ _ _ h
    exact ⟨args, m, St, PP, h1, R, rv, h2, kv⟩
  have lenOk : ∀ vs H Q E, spI Z (hotC a0 c0 fs) g0 vs H Q E → vs.length = ps.length := fun vs H Q E h => by
    obtain ⟨args, m, St, PP, h1, R, rv, _⟩ := one h
    rw [← rv.len, ← hp]
    exact (plain args [] h1).1
  refine ⟨lenOk, fun A outer s H args us vs Q E room pin e0 bt rvs hsp => ?_⟩
  have nargs := lenOk _ _ _ _ hsp
  obtain ⟨arg, m, St, PP, h1, R, rv, hP, kv⟩ := one hsp
  have bsK : ∀ b o, base.get? b = some o → s.heap.get? b = some o := fun b o e => (e0.bs b o e).1
  have KX : Z.K.In s.heap := e0.mod.kin.keeps bsK
  have nolim : s.heap.NoLimit := e0.mod.nolimit.keeps bsK
  have kinds : ∀ y ∈ ps.zip us, scope.names.lookup y.1 = some .local ∨ (scope.names.lookup y.1 = some .cell ∧ ((cellsFrom (s.heap.objs.size + 1) scope.names []).lookup y.1).isSome = true) := by
    rintro ⟨n, v⟩ hy
    exact (Sc.par n (List.of_mem_zip hy).1).imp id fun q => ⟨q, PySem.W.cellsFrom_some _ _ _ (.inl q)⟩
  refine codeAny_call_function room.depth (KX _ _ lk) rfl Sc.co Sc.gen rfl (PySem.W.codeRec_of KX hcd) (bt _ _ _ _ (wpAny_newFunctionEnv_cells Sc.kind kinds fun env he s1 x => ?_))
  subst he
  refine ⟨nolim.keeps x.toInCall.keep, codeAny_func ?_⟩
  have room2 : L2H.RoomH k (A.deeper (envOfC qual scope s.heap.objs.size f cdv)) := room.deeper _
  have gg : GoodS Z (hotC a0 c0 fs) (fun cls d _ H => E cls d H) F N scope (L2H.cxH (L2.CX P w) P w Z.K Z.mg base N qual scope f cdv A outer s H E (a0, oe)) := by
    refine ⟨good2 hk hx hcn rfl rfl rfl rfl Sc.nd ?_ ?_ fr cl (fun g hg => by rw [hf] at hg; cases hg) ⟨oe, Cc, dd, List.mem_cons_self, hz, hdd, hd, hC, hV, hT⟩ (fun h => by rw [hfl] at h; cases h), passes_of rfl, fun _ => rfl, Sc.kind, fun h => absurd hk h⟩
    · have := room2.un
      show (A.deeper _).units + 64 < cLine
      omega
    · exact takes_of (E₁ := fun e' s'' => L2.CX P w outer H s E e' s'') rfl rfl rfl rfl
  have J : Inv (L2H.cxH (L2.CX P w) P w Z.K Z.mg base N qual scope f cdv A outer s H E (a0, oe)) [] (L2.start N vs) H s1 := L2H.inv_startH Sc pin e0 nargs rvs x
  have body2 := (plain arg St h1).2
  have read : tSt Z (fun cls d _ H => E cls d H) (execs (hotC a0 c0 fs) d.body) { nx := fun _ H' => Q .non H', rt := Q } (L2.start N vs) H := by
    refine ⟨m, St, startE d arg, _, R, startE_re hn rv, ⟨?_, ?_, ?_, ?_, ?_⟩, body2⟩
    · rintro r' S' m' H' σ' ⟨q, T, rfl⟩ g R' re
      exact kv _ _ _ _ _ (hP _ q T) g R' (by simp only [RV])
    · rintro v S' m' H' x ⟨q, T, rfl⟩ g R' rx
      exact kv _ _ _ _ _ (hP _ q T) g R' rx
    · exact fun _ _ _ _ _ q => q.elim
    · exact fun _ _ _ _ _ q => q.elim
    · exact fun _ _ _ _ _ _ _ _ q => q.elim
  refine wpAny_mono ((sSs d.body gg hc).run [] s1 (L2.start N vs) H _ J read) (fun fl s' hs => ?_) fun _ _ q => q
  cases fl with
  | ret u => exact let ⟨v, _, H', J', rv', q⟩ := hs; ⟨v, H', J'.os, J'.bare, J'.base, J'.hok, rv', q⟩
  | next => exact let ⟨_, H', J', q⟩ := hs; ⟨.non, H', J'.os, J'.bare, J'.base, J'.hok, rfl, q⟩
  | brk => exact let ⟨_, _, _, q⟩ := hs; False.elim q
  | cont => exact let ⟨_, _, _, q⟩ := hs; False.elim q
/-! ### _law_said -/
def vTry : Stmt → Option (List Stmt × Str × Str × List Stmt)
  | .Try b hs o fi _ => (match hs, o, fi with
    | [.ExceptHandler (some (.Name x _)) (some n) su _], [], [] => some (b, x, n, su)
    | _, _, _ => none)
  | _ => none
theorem vTry_eq {s : Stmt} {v : List Stmt × Str × Str × List Stmt} (h : vTry s = some v) : ∃ p1 p2 p3, s = .Try v.1 [.ExceptHandler (some (.Name v.2.1 p1)) (some v.2.2.1) v.2.2.2 p2] [] [] p3 := by
  cases s <;> simp only [vTry] at h <;> first | cases h | skip
  split at h
  · cases h
    exact ⟨_, _, _, rfl⟩
  · cases h
def tryB (F : Facts) (N : List Str) (sc : Scope) (sb : Ss) (s : Stmt) : Bool := (vTry s).any fun v => decide (v.2.1 = Str.ofString "StepError") && glB sc v.2.1 && okB v.2.1 && decide (N[2]? = some v.2.2.1) && lonB sc v.2.2.1 && !v.2.2.2.isEmpty && chkSs F N sc sb v.2.2.2 &&
  (match v.1 with
   | [b] => (vAsg b).any fun u => slotB N sc 1 u.1 && (vCall u.2).any fun z => z.2.isEmpty && decide (N[0]? = some z.1)
   | _ => false)
def toldB (N : List Str) (sc : Scope) (s : Stmt) : Bool := (vRet s).any fun o => o.any fun y => (vTup y).any fun es => (match es with
   | [k, z] => (vCon k).any (fun c => match c with | .str t => decide (t = Str.ofString "told") | _ => false) && slotB N sc 1 z
   | _ => false)
def saidB (F : Facts) (N : List Str) (sc : Scope) (sb : Ss) (bg : List Stmt) : Bool := match bg with
  | [s, t] => tryB F N sc sb s && toldB N sc t
  | _ => false
theorem pe_more {X : Cx} {e : Expr} {t : TE} (h : PE X e t) : PE X e (fun σ H Q => ∃ Kc : VK, t σ H Kc ∧ ∀ v H', Kc v H' → Q v H') :=
  ⟨fun pins s σ H Q I ⟨Kc, q, k⟩ => thn (h.run pins s σ H Kc I q) fun u s1 ⟨v, H1, I1, r, q1⟩ => ⟨v, H1, I1, r, k v H1 q1⟩⟩
/-- what the suite is to answer -/
def koT (S : Sto) (w : Val) : Ko := ⟨fun _ _ => False, fun v S' => v = w ∧ ∃ T, S' = S ++ T, fun _ _ => False, fun _ _ => False, fun _ _ _ => False⟩
/-- the static part while e is handled, its dict at d -/
def Zd (Z : Zt) (d : Option Addr) (fs : List Int) : Zt := { Z with xd := match d, fs with | some dd, [i, j] => [(dd, fsV i j)] | _, _ => [] }
def kindE (Z : Zt) (e : Exc) (d : Option Addr) : Prop := (e.fs = [] ∧ e.cls ∈ Z.xs ∧ d = none) ∨ ∃ i j dd, e.fs = [i, j] ∧ e.cls ∈ Z.xi ∧ d = some dd
def tsS (Z : Zt) (sb : Ss) (a0 : Addr) (cls : Value) (d : Option Addr) : TS := fun D σ H => σ.length = 4 → ∃ (e : Exc) (Cc : Addr), cls = .ref Cc ∧ kindE Z e d ∧ Z.mg (Str.ofString e.cls) = some (.ref Cc) ∧ tSt (Zd Z d e.fs) W0 (execs (hotC a0 e.cls e.fs) sb) D σ H
theorem gives_said {Z : Zt} {X : Cx} {F : Facts} {Ng : List Str} {x : Str} {sg : Scope} {g SE : Addr} {cdg : Value} {bg : List Stmt} {a q : Str} {sb : Ss} {cls : List String}
    (hK : X.K = Z.K) (hmg : X.mg = Z.mg) (Sg : FnScope Ng [a] sg) (hN : Ng.length = 4) (hB : saidB F Ng sg sb bg = true)
    (hk : F.kind = 2) (hf : F.fns = ["_law_kind", "_law_whole"]) (hx : F.xns = []) (hcn : F.cns = []) (hcl : F.cls = []) (hfr : F.frs = []) (hxd : Z.xd = []) (M : ClsK Z.K Z.mg Z.xs Z.xi cls SE) (hr : Room 2 X.A)
    (kind : ∀ (a0 : Addr) (oe : PySem.Obj) (e : Exc) (d : Option Addr) (Cc : Addr), kindE Z e d → Z.mg (Str.ofString e.cls) = some (.ref Cc) → Zc (.ref Cc) d oe → (∀ dd, d = some dd → ∃ gs, (dd, gs) ∈ (Zd Z d e.fs).xd) → (∃ vs, oe.data = .fields vs) → ∀ g0, g0 = "_law_kind" ∨ g0 = "_law_whole" →
      ∃ f fd ps, FnX X.prog X.w X.K X.mg X.base (a0, oe) 1 f fd ps (spI (Zd Z d e.fs) (hotC a0 e.cls e.fs) g0) ∧ X.mg (Str.ofString g0) = some (.ref f) ∧ PySem.W.keepIn X.K (.ref f) = true ∧ Binds X.K fd ps [])
    (plain : ∀ a0 (e : Exc) w S, saidV e = some w → execs (hotC a0 e.cls e.fs) sb [none, none, some (.exn a0 e.cls), none] S (koT S w)) :
    LamX.GivesTo X Ng x sg g cdg bg a q (TTs Z) := by
  intro f c' s H Q tl act hc h
  obtain ⟨s1, s2, rfl, h1, h2⟩ : ∃ s1 s2, bg = [s1, s2] ∧ tryB F Ng sg sb s1 = true ∧ toldB Ng sg s2 = true := by
    unfold saidB at hB
    split at hB
    · exact ⟨_, _, rfl, and2 hB⟩
    · cases hB
  obtain ⟨⟨b, xn, en, su⟩, e1, h1⟩ := anyS h1
  obtain ⟨h1, hb⟩ := and2 h1
  obtain ⟨h1, hsu⟩ := and2 h1
  obtain ⟨h1, hne⟩ := and2 h1
  obtain ⟨h1, hlon⟩ := and2 h1
  obtain ⟨h1, hi2⟩ := and2 h1
  obtain ⟨h1, hok⟩ := and2 h1
  obtain ⟨hxn, hgl⟩ := and2 h1
  obtain ⟨p1, p2, p3, rfl⟩ := vTry_eq e1
  dsimp only at hb hsu hne hlon hi2 hok hxn hgl
  have gxn : xn = Str.ofString "StepError" := of_decide_eq_true hxn
  have gi2 : Ng[2]? = some en := of_decide_eq_true hi2
  split at hb
  · rename_i b1
    obtain ⟨⟨tg, cx⟩, e2, hb⟩ := anyS hb
    obtain ⟨hs1, hb⟩ := and2 hb
    obtain ⟨⟨nm, as⟩, e3, hb⟩ := anyS hb
    obtain ⟨has, hi0⟩ := and2 hb
    obtain ⟨p4, rfl⟩ := vAsg_eq e2
    obtain ⟨p5, p6, rfl⟩ := vCall_eq e3
    obtain ⟨x1, e4, hs1⟩ := anyS hs1
    obtain ⟨hs1, hk1⟩ := and2 hs1
    obtain ⟨hi1, hl1⟩ := and2 hs1
    obtain ⟨p7, rfl⟩ := vName_eq e4
    dsimp only at has hi0 hi1 hl1 hk1
    have gi0 : Ng[0]? = some nm := of_decide_eq_true hi0
    have gi1 : Ng[1]? = some x1 := of_decide_eq_true hi1
    have en0 : nm = a := by
      have q := Sg.pre
      cases Ng with
      | nil => cases gi0
      | cons y r =>
        simp at q gi0
        rw [← gi0, q]
    subst en0
    have eas : as = [] := List.isEmpty_iff.mp has
    subst eas
    obtain ⟨o, e5, h20⟩ := anyS h2
    obtain ⟨y, rfl, h21⟩ := anyS h20
    obtain ⟨es, e6, h22⟩ := anyS (o := vTup y) h21
    clear h2
    obtain ⟨p8, rfl⟩ := vRet_eq e5
    obtain ⟨k1, p9, rfl⟩ := vTup_eq e6
    split at h22
    · rename_i kc z
      obtain ⟨h3, h4⟩ := and2 h22
      obtain ⟨c, e7, h30⟩ := anyS h3
      clear h3 h22
      obtain ⟨k2, p10, rfl⟩ := vCon_eq e7
      split at h30
      · rename_i t
        have et : t = Str.ofString "told" := of_decide_eq_true h30
        subst et
        obtain ⟨x2, e8, h40⟩ := anyS h4
        clear h4
        obtain ⟨h41, hk2⟩ := and2 h40
        obtain ⟨hi3, hl3⟩ := and2 h41
        obtain ⟨p11, rfl⟩ := vName_eq e8
        have gi3 : Ng[1]? = some x2 := of_decide_eq_true hi3
        obtain ⟨d1, d2, _⟩ := okB_d hk2
        obtain ⟨s0, su', rfl⟩ : ∃ s0 su', su = s0 :: su' := by
          cases su with
          | nil => cases hne
          | cons s0 su' => exact ⟨s0, su', rfl⟩
        have hgl2 : Gl (cxOf C8.CX0 X.prog X.w X.K X.mg X.base Ng x sg g cdg X.A X.stack s H C8.E0).nox xn := glB_g hgl
        have hsuite : ∀ (a0 : Addr) (oe : PySem.Obj) (cls : Value) (d : Option Addr) (pn : List (Addr × PySem.Obj)), Zc cls d oe → (∃ vs, oe.data = .fields vs) →
            PSs ((cxOf C8.CX0 X.prog X.w X.K X.mg X.base Ng x sg g cdg X.A X.stack s H C8.E0).nox.suite a0 ((a0, oe) :: pn)) (s0 :: su') (tsS Z sb a0 cls d) := by
          refine fun a0 oe cls d pn hz hd => ⟨fun pins s' σ H' D I h => ?_⟩
          obtain ⟨e, Cc, rfl, hke, hm, ht⟩ := h (I.len.trans hN)
          obtain ⟨C2, m1, hC, hV, hS, hT⟩ := M.xn e.cls (hke.elim (fun z => .inl z.2.1) fun ⟨i, j, dd, z⟩ => .inr z.2.1)
          rw [hm] at m1
          cases m1
          have hdd : ∀ dd, d = some dd → ∃ gs, (dd, gs) ∈ (Zd Z d e.fs).xd := by
            intro dd hd2
            rcases hke with ⟨_, _, h⟩ | ⟨i, j, d2, h1, _, h3⟩
            · rw [h] at hd2; cases hd2
            · rw [h3] at hd2
              cases hd2
              rw [h1, h3]
              exact ⟨fsV i j, List.mem_singleton.mpr rfl⟩
          have gg : GoodS (Zd Z d e.fs) (hotC a0 e.cls e.fs) W0 F Ng sg ((cxOf C8.CX0 X.prog X.w X.K X.mg X.base Ng x sg g cdg X.A X.stack s H C8.E0).nox.suite a0 ((a0, oe) :: pn)) := by
            refine ⟨good2 hk hx hcn hK hmg rfl rfl Sg.nd ?_ LamX.takes0 (fun x hx => by rw [hfr] at hx; cases hx) (fun T hT => by rw [hcl] at hT; cases hT) (fun f hf' => ?_) ⟨oe, Cc, d, List.mem_cons_self, hz, hdd, hd, ?_, ?_, fun T hT => by rw [hcl] at hT; cases hT⟩ (fun _ i j hij => ?_), PassesOwn.never, fun _ => rfl, Sg.kind, fun h => absurd hk h⟩
            · have := hr.un
              show X.A.units + 3 + 64 < cLine
              omega
            · rw [hf] at hf'
              have e1 : f = "_law_kind" ∨ f = "_law_whole" := by simpa using hf'
              obtain ⟨fk, fdk, psk, q1, q2, q3, q4⟩ := kind a0 oe e d Cc hke hm hz hdd hd f e1
              refine ⟨(a0, oe), 1, fk, fdk, psk, List.mem_cons_self, q1, ?_, q2, q3, q4⟩
              have r1 := hr.deeper (envOfC x sg s.heap.objs.size g cdg)
              exact ⟨r1.dp, r1.un⟩
            · show ExcC X.K Cc
              rw [hK]; exact hC
            · show PySem.W.kitOne X.K _ _ = _
              rw [hK]; exact hV
            · rcases hke with ⟨h, _, _⟩ | ⟨i2, j2, dd, h1, h2, h3⟩
              · rw [h] at hij; cases hij
              · rw [hij] at h1
                cases h1
                obtain ⟨C3, n1, n2, n3, n4⟩ := M.xf e.cls h2
                rw [hm] at n1
                cases n1
                have hmem : (dd, fsV i j) ∈ (Zd Z d e.fs).xd := by rw [hij, h3]; exact List.mem_singleton.mpr rfl
                rw [h3] at hz
                have n2' : XfC X.K Cc := by rw [hK]; exact n2
                exact ⟨⟨oe, Cc, dd, fsV i j, List.mem_cons_self, hz, hd, n2', by show PySem.W.findIn X.K _ _ = _; rw [hK]; exact n3, hmem, fsV_many i j⟩, ⟨oe, Cc, dd, fsV i j, List.mem_cons_self, hz, hd, n2', by show PySem.W.findIn X.K _ _ = _; rw [hK]; exact n4, hmem, fsV_most i j⟩⟩
          exact (sSs sb gg hsu).run pins s' σ H' D I ht
        have hbody : ∀ (W : WX) (pn : List (Addr × PySem.Obj)) (xe : Value → Shared → Prop), Takes ((cxOf C8.CX0 X.prog X.w X.K X.mg X.base Ng x sg g cdg X.A X.stack s H C8.E0).nox.tr pn xe) W → PassesOwn (model X.prog X.w) (cxOf C8.CX0 X.prog X.w X.K X.mg X.base Ng x sg g cdg X.A X.stack s H C8.E0).nox.A (cxOf C8.CX0 X.prog X.w X.K X.mg X.base Ng x sg g cdg X.A X.stack s H C8.E0).nox.env xe →
            PSs ((cxOf C8.CX0 X.prog X.w X.K X.mg X.base Ng x sg g cdg X.A X.stack s H C8.E0).nox.tr pn xe) [.Assign [.Name x1 p7] (.Call (.Name nm p5) [] [] p6) p4]
              (fun D σ H => ∃ (Ech : XK) (Kc : VK), (∀ cls d σ' H', Ech cls d H' → W cls d σ' H') ∧ σ[0]? = some (some (.ref f)) ∧ H c' = some (LamX.CodeO c' q) ∧ tl Ech H Kc ∧ ∀ v H', Kc v H' → D.nx (σ.set 1 (some v)) H') := by
          refine fun W pn xe tk _ => ⟨fun pins s' σ H' D I h' => ?_⟩
          obtain ⟨Ech, Kc, hW, w1, w2, w3, w4⟩ := h'
          have hp := pe_more (act W pn xe Ech p5 p6 tk hW)
          have hq := pss_one (ps_asg (pos := p4) hp (pg_name (pos := p7) (X := (cxOf C8.CX0 X.prog X.w X.K X.mg X.base Ng x sg g cdg X.A X.stack s H C8.E0).nox.tr pn xe) Sg.nd gi1 (.inl (lon_l hl1))))
          exact hq.run pins s' σ H' D I ⟨Kc, ⟨w1, w2, w3⟩, w4⟩
        have tr := ps_try_as (X := (cxOf C8.CX0 X.prog X.w X.K X.mg X.base Ng x sg g cdg X.A X.stack s H C8.E0).nox) (x := xn) (n := en) (c := .ref SE) (i := 2) (np := p1) (pos := p3) (pos' := p2) (Wout := W0) rfl rfl Sg.nd gi2 (lon_l hlon) ⟨hgl2, (okB_d hok).1,   .inl (by rw [gxn]; show X.mg _ = _; rw [hmg]; exact M.se)⟩ LamX.takes0 hbody hsuite
        have rt := ps_ret (pos := p8) (pe_tup (x1 := k1) (pos := p9) (pa_cons (X := (cxOf C8.CX0 X.prog X.w X.K X.mg X.base Ng x sg g cdg X.A X.stack s H C8.E0).nox) (pe_str (x := Str.ofString "told") (j := k2) (pos := p10)) (pa_cons (pe_var (i := 1) (pos := p11) gi3 (.inl (lon_l hl3)) d1 d2) pa_nil rfl) rfl))
        refine ⟨_, pss_cons tr (pss_one rt), ?_⟩
        have len4 : (L2.start Ng [V.ref f]).length = 4 := by simp [L2.start, hN]
        refine ⟨_, _, ?_, by simp [L2.start], hc, h, ?_⟩
        · rintro cls d σ' H' ⟨m, St, e, wv, R, rx, hw, kk⟩
          obtain ⟨Cc, hmc, rfl, hfs⟩ := rx
          have hke : kindE Z e d := by
            rcases hfs with ⟨h1, h2, h3⟩ | ⟨i, j, dd, h1, h2, h3, _⟩
            · exact .inl ⟨h1, h2, h3⟩
            · exact .inr ⟨i, j, dd, h1, h2, h3⟩
          have R' : Rep (Zd Z d e.fs) m St H' := by
            refine ⟨R.len, R.nd, R.ob, R.tabs.1, ?_⟩
            rcases hfs with ⟨h1, _, h3⟩ | ⟨i, j, dd, h1, h2, h3, h4⟩
            · rw [h1, h3]
              exact fun p hp => absurd hp (by simp [Zd])
            · rw [h1, h3]
              intro p hp
              obtain rfl : p = (dd, fsV i j) := List.mem_singleton.mp hp
              exact h4
          obtain ⟨C2, m1, hC, hV, hS, hT⟩ := M.xn e.cls (hke.elim (fun z => .inl z.2.1) fun ⟨i, j, dd, z⟩ => .inr z.2.1)
          rw [hmc] at m1
          cases m1
          refine ⟨true, by show PySem.W.exmOne X.K _ _ = _; rw [hK]; exact hS, fun _ a0 ha0 hl4 => ⟨e, Cc, rfl, hke, hmc, ?_⟩, fun z => by cases z⟩
          have l2 : 2 < σ'.length := by rw [List.length_set] at hl4; omega
          refine ⟨m, St, [none, none, some (.exn a0 e.cls), none], koT St wv, R', ⟨by rw [hl4]; rfl, fun i v hv => ?_⟩, ⟨fun _ _ _ _ _ z => z.elim, ?_, fun _ _ _ _ _ z => z.elim, fun _ _ _ _ _ z => z.elim, fun _ _ _ _ _ _ _ _ z => z.elim⟩, plain a0 e wv St hw⟩
          · match i, hv with
            | 2, hv =>
              cases hv
              exact ⟨.ref a0, by rw [List.getElem?_set_self l2], by simp only [RV]⟩
            | 0, hv => cases hv
            | 1, hv => cases hv
            | 3, hv => cases hv
            | n + 4, hv => simp at hv
          · rintro v S' m' H2 x ⟨rfl, T, rfl⟩ g2 R2 rx2
            exact kk T m' H2 x g2 ⟨R2.len, R2.nd, R2.ob, R2.tabs.1, fun p hp => by rw [hxd] at hp; cases hp⟩ rx2
        · intro v H' hv
          refine ⟨v, by rw [List.getElem?_set_self (by rw [len4]; decide)], ?_⟩
          exact ⟨by show (2 : Nat) ≤ sizeLine; decide, hv⟩
      · cases h30
    · cases h22
  · cases hb
/-! ### _law_word -/
/-- the lambda is called by a def that another def has called: A, outer, s2, H2 are that def's entry -/
theorem pe_actZ {X : Cx} {pins : List (Addr × PySem.Obj)} {σ : L2.St} {H : Hp} {s : Shared} {A : Around} {outer : List PySem.Env} {s2 : Shared} {H2 : Hp} {Ng : List Str} {qg : Str} {sg : Scope} {g f c' : Addr} {cdg pm ctv : Value} {params : Arguments} {body : Expr} {scope : Scope} {k i : Nat} {a : Str} {pn : List (Addr × PySem.Obj)} {xe : Value → Shared → Prop} {W : WX} {E : XK} {tb : TE} {p1 p2 : Pos}
    (I : Inv X pins σ H s) (L : LamX.LamS X.env.scope scope) (hf : s.heap.get? f = some (PySem.W.kla_obj "<lambda>" (X.env.qual ++ "<lambda>") params body scope (cloFrom X.env.cells scope.names []) pm c' ctv)) (hfn : H f = none) (hfr : f ∉ frs X.stack)
    (hU : ∀ (pz : List (Addr × PySem.Obj)) (σz : L2.St) (Hz : Hp) (sz : Shared), Inv ((cxOf C8.CX0 X.prog X.w X.K X.mg X.base Ng qg sg g cdg A outer s2 H2 C8.E0).tr pn xe) pz σz Hz sz → Un (frs X.stack) [] H Hz s.heap sz.heap)
    (hbind : bindArgs (PySem.W.kla_fn "<lambda>" (X.env.qual ++ "<lambda>") params body scope (cloFrom X.env.cells scope.names []) pm (.ref c') ctv) ⟨[], []⟩ = pure [])
    (tk : Takes ((cxOf C8.CX0 X.prog X.w X.K X.mg X.base Ng qg sg g cdg A outer s2 H2 C8.E0).tr pn xe) W) (hW : ∀ cls d σ' H', E cls d H' → W cls d σ' H') (hr : Room (k + 1) (A.deeper (envOfC qg sg s2.heap.objs.size g cdg)))
    (hbody : ∀ (A : Around) (outer : List PySem.Env) (s : Shared) (H : Hp), Room k (A.deeper (LamX.lamEnv X scope s.heap.objs.size f c')) → PE (LamX.lamCx X A outer s H E scope f c') body tb)
    (hN : Ng[i]? = some a) (hv : Vis sg a) (hd : (a == ("__debug__" : Str)) = false) (hcd : (a == ("__classdict__" : Str)) = false) :
    PE ((cxOf C8.CX0 X.prog X.w X.K X.mg X.base Ng qg sg g cdg A outer s2 H2 C8.E0).tr pn xe) (.Call (.Name a p1) [] [] p2)
      (fun σZ HZ Q => σZ[i]? = some (some (.ref f)) ∧ HZ c' = some (LamX.CodeO c' (X.env.qual ++ "<lambda>")) ∧ tb σ HZ Q) := by
  refine ⟨fun pz sz σz Hz Q Iz ⟨q1, q2, q3⟩ => ?_⟩
  have look := (pe_var (X := (cxOf C8.CX0 X.prog X.w X.K X.mg X.base Ng qg sg g cdg A outer s2 H2 C8.E0).tr pn xe) (pos := p1) (i := i) hN hv hd hcd).run pz sz σz Hz (fun v H1 => v = .ref f ∧ H1 = Hz) Iz ⟨_, q1, rfl, rfl⟩
  refine wpAny_Call_Name_kw (thn look ?_)
  rintro u t1 ⟨v, H1, J1, rv, rfl, rfl⟩
  obtain rfl : u = Value.ref f := rv
  have un := hU _ _ _ _ J1
  have lamAt := un.keep f _ hf hfn hfr (by simp)
  obtain ⟨⟨co, vs, tt, co1, co2, co3⟩, _, _⟩ := J1.hok c' _ q2
  have ran : codeAny (model X.prog X.w) (A.deeper (envOfC qg sg s2.heap.objs.size g cdg)) (.call (.ref f) ⟨[], []⟩) (CR (L2.CX X.prog X.w) (envOfC qg sg s2.heap.objs.size g cdg :: outer) X.prog X.w H1 t1 Q E) t1 := by
    refine PySem.W.kla_callFunE hr.depth lamAt rfl L.co L.gen rfl ⟨c', co, vs, tt, rfl, co1, co2, co3⟩ ?_
    rw [hbind]
    refine wpAny_pure (wpAny_newFunctionEnv (fun y hy => (L.own y hy).2) (fun y hy => absurd hy (by simp)) (fun h₁ hns hsb => ⟨J1.nolimit.fresh _ hsb, ?_⟩) L.kind)
    have old : ∀ b o, t1.heap.get? b = some o → h₁.get? b = some o := fun b o e => hsb.extBut b o (Nat.ne_of_lt (Heap.lt_size e)) (Heap.get?_push_of_some _ e)
    have JL : Inv (LamX.lamCx X (A.deeper (envOfC qg sg s2.heap.objs.size g cdg)) (envOfC qg sg s2.heap.objs.size g cdg :: outer) t1 H1 E scope f c') [] σ H1 { t1 with heap := h₁, toks := t1.toks + ([] : List (Str × Value)).length } := LamX.lam_start2 I L J1.env0 hr.hd un hns old
    refine PySem.W.kla_codeExpr (wpAny_mono ((hbody _ _ t1 H1 (hr.deeper _)).run [] _ _ H1 Q JL q3) ?_ fun _ _ z => z)
    rintro v s' ⟨w', H', J', rv', q⟩
    exact ⟨w', H', J'.os, J'.bare, J'.base, J'.hok, rv', q⟩
  refine PySem.W.callWith_F0 ⟨_, _, _, _, lamAt⟩ (wpAny_call (codeAny_mono ran ?_))
  intro r s' hq
  cases r with
  | error e => exact (passes_call tk hW) pz σz H1 t1 e s' J1 hq
  | ok fl =>
    cases fl with
    | ret u => exact J1.after hq
    | next => exact hq.elim
    | brk => exact hq.elim
    | cont => exact hq.elim
/-- the body of _law_word: return _law_said(a)[0] -/
def vWord (bg : List Stmt) : Option (Str × Str) := match bg with
  | [s] => (vRet s).bind fun o => o.bind fun y => (vSub y).bind fun v => (vCall v.1).bind fun u => (match u.2, vInt v.2 with
    | [z], some 0 => (vName z).map fun a => (u.1, a)
    | _, _ => none)
  | _ => none
theorem vWord_eq {bg : List Stmt} {v : Str × Str} (h : vWord bg = some v) : ∃ p1 p2 p3 k p4 p5 p6, bg = [.Return (some (.Subscript (.Call (.Name v.1 p1) [.Name v.2 p2] [] p3) (.Constant (.int 0) k p4) p5)) p6] := by
  unfold vWord at h
  split at h
  · obtain ⟨o, e1, ha⟩ := Option.bind_eq_some_iff.mp h
    obtain ⟨y, e0, hb⟩ := Option.bind_eq_some_iff.mp ha
    obtain ⟨⟨x, i⟩, e2, hc⟩ := Option.bind_eq_some_iff.mp hb
    obtain ⟨⟨n, es⟩, e3, hd⟩ := Option.bind_eq_some_iff.mp hc
    clear h ha hb hc
    dsimp only at e3 hd
    split at hd
    · rename_i z he hi
      obtain ⟨a, e4, rfl⟩ := Option.map_eq_some_iff.mp hd
      obtain ⟨p6, rfl⟩ := vRet_eq e1
      subst e0
      obtain ⟨p5, rfl⟩ := vSub_eq e2
      obtain ⟨p1, p3, rfl⟩ := vCall_eq e3
      obtain ⟨k, p4, e5⟩ := vInt_eq hi
      obtain ⟨p2, rfl⟩ := vName_eq e4
      first | subst e5 | (simp only [] at e5; subst e5) | skip
      try rw [e5]
      exact ⟨_, _, _, _, _, _, _, rfl⟩
    · cases hd
  · cases h
end Mp

set_option Elab.async false
set_option linter.all false
set_option maxRecDepth 100000
set_option autoImplicit false
set_option maxHeartbeats 2000000
/-! Mini19: all defs. -/
namespace Mp
open PySem PySem.Spec PyProof.Rows L2
/-- the defs that make a lambda: code object, its table, the lambda's name -/
abbrev Ltab := List (Addr × Addr × Str)
def tabsOf (cs : Ltab) : List (Addr × Str) := cs.map fun p => (p.2.1, p.2.2)
/-- what the module is known to hold -/
structure ModM (w : World) (Z : Zt) (F : Facts) (G : Table) (cs : Ltab) : Prop where
  fns : ∀ f ∈ F.fns, ∃ (a : Addr) (oc : Value) (od : Option Addr) (osl : Array (Option Value)) (dV kV doc pm : Value) (an : Option Addr) (cdv ct : Value) (qual : Str) (params : Arguments) (body : List Stmt) (scope : Scope) (N ps : List Str) (d : FDef) (lam : Bool),
    Z.K.lookup a = some ⟨oc, od, .func (PySem.W.fnOf (Str.ofString f) qual params body scope dV kV doc pm an cdv ct), osl⟩ ∧ PySem.W.codeIn Z.K cdv qual = true ∧ FnScope N ps scope ∧ G f = some d ∧ d.np = ps.length ∧ d.nv = N.length ∧
    chkSs { F with lam := lam } N scope d.body body = true ∧ Z.mg (Str.ofString f) = some (.ref a) ∧ Binds Z.K (PySem.W.fnOf (Str.ofString f) qual params body scope dV kV doc pm an cdv ct) ps [] ∧
    (∀ ds, (f, ds) ∈ F.dfs → DflR Z.K (PySem.W.fnOf (Str.ofString f) qual params body scope dV kV doc pm an cdv ct) ps ds) ∧ (lam = true → ∃ c P, cdv = .ref c ∧ (c, P, (qual ++ ".<locals>.") ++ "<lambda>") ∈ cs)
  cn : ∀ p ∈ F.cns, ∃ u x, Z.mg (Str.ofString p.1) = some u ∧ RelV x u ∧ ∀ m H, RV Z.K H m p.2 x
  fr : ∀ x ∈ F.frs, Z.mg (Str.ofString x) = none
  xn : ∀ c ∈ F.xns, c ∈ Z.xs ∧ ∃ Cc, Z.mg (Str.ofString c) = some (.ref Cc) ∧ PySem.W.excIn Z.K Cc [.type "ValueError", .type "Exception", .type "BaseException", .type "object"] "ValueError.__new__" = true ∧ PySem.W.keepIn Z.K (.ref Cc) = true ∧
    PySem.W.subIn Z.K (.ref Cc) (.type "BaseException") = some true ∧ PySem.W.typeIn Z.K (.ref Cc) = some (.type "type")
  cl : F.cls = []
  amp : ∀ f, G ("&" ++ f) = none
  sm : SmF Z.K
  dc : ∀ p ∈ F.dcs, DcF Z.K Z.mg w p
  xi : ∀ c ∈ F.xis, c ∈ Z.xi ∧ ∃ Cc fI fd ps, ∀ (P : Program) (w : World) (base : Heap), XiF P w Z.K Z.mg base c Cc fI fd ps
/-- _law_said(lambda: ..) is read, wherever a def of cs stands -/
def SaidAll (P : Program) (w : World) (Z : Zt) (base : Heap) (cs : Ltab) (wrd : Bool) : Prop := ∀ (X : Cx) (k : Nat) (c T : Addr), X.prog = P → X.w = w → X.K = Z.K → X.mg = Z.mg → X.base = base → X.env.code = .ref c → (c, T, X.env.qual ++ "<lambda>") ∈ cs → Room (k + 3) X.A → SaidF Z X k ∧ (wrd = true → WordF Z X k)
/-- the defs' promises at level j -/
def Fam (P : Program) (w : World) (Z : Zt) (base : Heap) (F : Facts) (gd : Bool) (j : Nat) (C : Call) : Prop := ∀ f ∈ F.fns, ∃ a fd ps, FnG P w Z.K Z.mg base gd j a fd ps (spI Z C f) ∧ Z.mg (Str.ofString f) = some (.ref a) ∧ PySem.W.keepIn Z.K (.ref a) = true ∧ Binds Z.K fd ps [] ∧ ∀ ds, (f, ds) ∈ F.dfs → DflR Z.K fd ps ds
section
variable {P : Program} {w : World} {Z : Zt} {base : Heap} {F : Facts} {G : Table} {cs : Ltab}
/-- a def keeps the promise of the next level -/
theorem def_ok {C : Call} {j : Nat} (M : ModM w Z F G cs) (hk2 : F.kind ≠ 2) (ih : Fam P w Z base F (decide (F.kind = 0)) j C) (il : F.kind = 0 → Fam P w Z base F.low false j C) (hS : F.kind = 0 → cs ≠ [] → SaidAll P w Z base cs F.wrd) (hfv : ∀ f S Q QX, C ("&" ++ f) [] S Q QX → f ∈ F.fvs ∧ ∃ a, Z.mg (Str.ofString f) = some (.ref a) ∧ Q (.exn a f) S)
    {f : String} {a : Addr} {oc : Value} {od : Option Addr} {osl : Array (Option Value)} {dV kV doc pm : Value} {an : Option Addr} {cdv ct : Value} {name qual : Str} {params : Arguments} {body : List Stmt} {scope : Scope} {N ps : List Str} {d : FDef} {lam : Bool}
    (lk : Z.K.lookup a = some ⟨oc, od, .func (PySem.W.fnOf name qual params body scope dV kV doc pm an cdv ct), osl⟩) (hcd : PySem.W.codeIn Z.K cdv qual = true) (S : FnScope N ps scope) (hp : d.np = ps.length) (hn : d.nv = N.length) (hc : chkSs { F with lam := lam } N scope d.body body = true)
    (hl : lam = true → ∃ c T, cdv = .ref c ∧ (c, T, (qual ++ ".<locals>.") ++ "<lambda>") ∈ cs) :
    FnG P w Z.K Z.mg base (decide (F.kind = 0)) (j + 4) a (PySem.W.fnOf name qual params body scope dV kV doc pm an cdv ct) ps (fun vs H Q E => ∃ m S args PP PX, Rep Z m S H ∧ RVs Z.K H m args vs ∧ runF C d args S PP PX ∧ KV Z m H PP Q ∧
      ∀ e S' m' H' cls d, PX e S' → Grow m H m' H' → Rep Z m' S' H' → RX Z H' m' e cls d → E cls d H') := by
  refine fnG_of lk hcd S (fun vs H Q E ⟨m, St, args, PP, PX, R, rv, ⟨h, _⟩, _⟩ => by rw [← rv.len, h, hp]) fun A outer s H vs Q E room hg ⟨m, St, args, PP, PX, R, rv, ⟨hl', h⟩, kv, kx⟩ => ?_
  have gg : GoodS Z C (fun cls d _ H => E cls d H) { F with lam := lam } N scope (cxOf (L2.CX P w) P w Z.K Z.mg base N qual scope a cdv A outer s H E) := by
    refine ⟨⟨rfl, rfl, rfl, rfl, S.nd, fun _ => rfl, fun h => hg (decide_eq_true h), ?_, ?_, fun _ g hg => ?_, M.cn, M.fr, fun c hc => ?_, fun c hc => ?_, fun h0 hlam => ?_, fun h => absurd h hk2, fun h => absurd h hk2, fun h => absurd h hk2, fun _ => M.sm, fun _ => M.dc, fun _ => hfv⟩, passes_of rfl, fun _ => rfl, S.kind, fun _ => ⟨room.mono (by omega), fun c hc => ?_⟩⟩
    · have := room.un
      show (A.deeper _).units + 64 < cLine
      omega
    · exact takes_of (E₁ := fun e' s'' => L2.CX P w outer H s E e' s'') rfl rfl rfl rfl
    · obtain ⟨a', fd, ps', h1, h2, h3, h4⟩ := ih g hg
      exact ⟨j, a', fd, ps', h1, room.mono (by omega), h2, h3, h4⟩
    · obtain ⟨hz, Cc, q1, q2, q3, q4, q5⟩ := M.xn c hc
      exact ⟨hz, Cc, q1, q2, q3, raises_own q4 q5⟩
    · have hc : c ∈ F.cls := hc
      rw [M.cl] at hc
      cases hc
    · obtain ⟨c, T, e1, e2⟩ := hl hlam
      have eq1 : (cxOf (L2.CX P w) P w Z.K Z.mg base N qual scope a cdv A outer s H E).env.qual = qual ++ ".<locals>." := rfl
      refine ⟨j, fun Y y1 y2 y3 y4 y5 y6 y7 y8 => ?_, fun f hf => il h0 f hf⟩
      have eq2 : (c, T, Y.env.qual ++ "<lambda>") ∈ cs := by rw [y7, eq1]; exact e2
      exact hS h0 (List.ne_nil_of_mem e2) Y j c T y1 y2 y3 y4 y5 (y6.trans e1) eq2 (by rw [y8]; exact room)
    · obtain ⟨hz, Cc, fI, fd, ps', hx⟩ := M.xi c hc
      exact ⟨hz, Cc, fI, fd, ps', hx P w base⟩
  refine ⟨_, sSs d.body gg hc, m, St, startE d args, _, R, startE_re hn rv, ?_, h⟩
  exact ⟨fun r' S' m' H' σ' q g R' re => kv _ _ _ _ _ q g R' (by simp only [RV]), fun v S' m' H' x q g R' rx => kv _ _ _ _ _ q g R' rx, fun _ _ _ _ _ q => q.elim, fun _ _ _ _ _ q => q.elim, fun e r' S' m' H' σ' cls d q g R' _ rx => kx e S' m' H' cls d q g R' rx⟩
theorem fam0 (M : ModM w Z F G cs) (gd : Bool) (A : String → Addr) : Fam P w Z base F gd 0 (callN (withF G F.fvs A) 0) := fun f hf => by
  obtain ⟨a, oc, od, osl, dV, kV, doc, pm, an, cdv, ct, qual, params, body, scope, N, ps, d, lam, lk, hcd, S, hG, hp, hn, hc, hm, hb, hd, hl⟩ := M.fns f hf
  exact ⟨a, _, ps, ⟨fun vs H Q E ⟨_, _, _, _, _, _, _, h, _⟩ => h.elim, fun A outer s H args us vs Q E _ _ _ _ _ ⟨_, _, _, _, _, _, _, h, _⟩ => h.elim⟩, hm, keepIn_fn lk, hb, hd⟩
theorem famS {n j : Nat} {A : String → Addr} (M : ModM w Z F G cs) (hk2 : F.kind ≠ 2) (hA : ∀ g ∈ F.fvs, Z.mg (Str.ofString g) = some (.ref (A g))) (ih : Fam P w Z base F (decide (F.kind = 0)) j (callN (withF G F.fvs A) n)) (il : F.kind = 0 → Fam P w Z base F.low false j (callN (withF G F.fvs A) n)) (hS : F.kind = 0 → cs ≠ [] → SaidAll P w Z base cs F.wrd) : Fam P w Z base F (decide (F.kind = 0)) (j + 4) (callN (withF G F.fvs A) (n + 1)) := fun f hf => by
  obtain ⟨a, oc, od, osl, dV, kV, doc, pm, an, cdv, ct, qual, params, body, scope, N, ps, d, lam, lk, hcd, S, hG, hp, hn, hc, hm, hb, hd, hl⟩ := M.fns f hf
  have q := def_ok M hk2 ih il hS (fun f S Q QX h => let ⟨h1, h2⟩ := callN_fv M.amp n f S Q QX h; ⟨h1, A f, hA f h1, h2⟩) lk hcd S hp hn hc hl (f := f)
  have hw : withF G F.fvs A f = some d := by
    rw [withF_fn, hG]
    rw [List.all_eq_true]
    intro g _
    have : ¬ f = "&" ++ g := fun e => by rw [e, M.amp g] at hG; cases hG
    simpa using this
  have im : ∀ vs H Q E, spI Z (callN (withF G F.fvs A) (n + 1)) f vs H Q E → ∃ m S args PP PX, Rep Z m S H ∧ RVs Z.K H m args vs ∧ runF (callN (withF G F.fvs A) n) d args S PP PX ∧ KV Z m H PP Q ∧
      ∀ e S' m' H' cls d, PX e S' → Grow m H m' H' → Rep Z m' S' H' → RX Z H' m' e cls d → E cls d H' := by
    rintro vs H Q E ⟨m, St, args, PP, PX, R, rv, ⟨d', e, h⟩, kv, kx⟩
    rw [hw] at e
    cases e
    exact ⟨m, St, args, PP, PX, R, rv, h, kv, kx⟩
  exact ⟨a, _, ps, ⟨fun vs H Q E h => q.len vs H Q E (im _ _ _ _ h), fun A outer s H args us vs Q E r g e0 bt rv h => q.run A outer s H args us vs Q E r g e0 bt rv (im _ _ _ _ h)⟩, hm, keepIn_fn lk, hb, hd⟩
theorem modG {A : String → Addr} (M : ModM w Z F G cs) (ML : ModM w Z F.low G cs) (h0 : F.kind = 0) (hA : ∀ g ∈ F.fvs, Z.mg (Str.ofString g) = some (.ref (A g))) (hS : cs ≠ [] → SaidAll P w Z base cs F.wrd) : ∀ n, Fam P w Z base F true (4 * n) (callN (withF G F.fvs A) n) ∧ Fam P w Z base F.low false (4 * n) (callN (withF G F.fvs A) n)
  | 0 => ⟨fam0 M true A, fam0 ML false A⟩
  | n + 1 => by
    obtain ⟨i1, i2⟩ := modG M ML h0 hA hS n
    have d0 : decide (F.kind = 0) = true := decide_eq_true h0
    have a := famS (j := 4 * n) M (by rw [h0]; decide) hA (by rw [d0]; exact i1) (fun _ => i2) (fun _ => hS)
    rw [d0] at a
    exact ⟨a, famS (F := F.low) (j := 4 * n) ML (by show (1 : Nat) ≠ 2; decide) hA i2 (fun h => by cases h) (fun h => by cases h)⟩
end
/-- _law_said, _law_kind and _law_whole, as the module holds them -/
structure ModK (Z : Zt) (FS FK FW : Facts) (sb : Ss) (dK dW : FDef) (wrd : Bool) : Prop where
  said : ∃ (g : Addr) (oc : Value) (od : Option Addr) (osl : Array (Option Value)) (dV kV doc pm : Value) (an : Option Addr) (cdv ct : Value) (params : Arguments) (body : List Stmt) (scope : Scope) (N : List Str) (a : Str),
    Z.K.lookup g = some ⟨oc, od, .func (PySem.W.fnOf (Str.ofString "_law_said") (Str.ofString "_law_said") params body scope dV kV doc pm an cdv ct), osl⟩ ∧ PySem.W.codeIn Z.K cdv (Str.ofString "_law_said") = true ∧ FnScope N [a] scope ∧ N.length = 4 ∧ saidB FS N scope sb body = true ∧ locB scope a = true ∧ okB a = true ∧
    Z.mg (Str.ofString "_law_said") = some (.ref g) ∧ Binds Z.K (PySem.W.fnOf (Str.ofString "_law_said") (Str.ofString "_law_said") params body scope dV kV doc pm an cdv ct) [a] []
  word : wrd = true → ∃ (g : Addr) (oc : Value) (od : Option Addr) (osl : Array (Option Value)) (dV kV doc pm : Value) (an : Option Addr) (cdv ct : Value) (params : Arguments) (body : List Stmt) (scope : Scope) (a : Str),
    Z.K.lookup g = some ⟨oc, od, .func (PySem.W.fnOf (Str.ofString "_law_word") (Str.ofString "_law_word") params body scope dV kV doc pm an cdv ct), osl⟩ ∧ PySem.W.codeIn Z.K cdv (Str.ofString "_law_word") = true ∧ FnScope [a] [a] scope ∧ vWord body = some (Str.ofString "_law_said", a) ∧ glB scope (Str.ofString "_law_said") = true ∧ locB scope a = true ∧ okB a = true ∧
    Z.mg (Str.ofString "_law_word") = some (.ref g) ∧ Binds Z.K (PySem.W.fnOf (Str.ofString "_law_word") (Str.ofString "_law_word") params body scope dV kV doc pm an cdv ct) [a] []
  kind : ∃ (g : Addr) (oc : Value) (od : Option Addr) (osl : Array (Option Value)) (dV kV doc pm : Value) (an : Option Addr) (cdv ct : Value) (qual : Str) (params : Arguments) (body : List Stmt) (scope : Scope) (N ps : List Str),
    Z.K.lookup g = some ⟨oc, od, .func (PySem.W.fnOf (Str.ofString "_law_kind") qual params body scope dV kV doc pm an cdv ct), osl⟩ ∧ PySem.W.codeIn Z.K cdv qual = true ∧ FnScope N ps scope ∧ dK.np = ps.length ∧ dK.nv = N.length ∧ chkSs FK N scope dK.body body = true ∧
    Z.mg (Str.ofString "_law_kind") = some (.ref g) ∧ Binds Z.K (PySem.W.fnOf (Str.ofString "_law_kind") qual params body scope dV kV doc pm an cdv ct) ps []
  whole : ∃ (g : Addr) (oc : Value) (od : Option Addr) (osl : Array (Option Value)) (dV kV doc pm : Value) (an : Option Addr) (cdv ct : Value) (qual : Str) (params : Arguments) (body : List Stmt) (scope : Scope) (N ps : List Str),
    Z.K.lookup g = some ⟨oc, od, .func (PySem.W.fnOf (Str.ofString "_law_whole") qual params body scope dV kV doc pm an cdv ct), osl⟩ ∧ PySem.W.codeIn Z.K cdv qual = true ∧ FnScope N ps scope ∧ dW.np = ps.length ∧ dW.nv = N.length ∧ chkSs FW N scope dW.body body = true ∧
    Z.mg (Str.ofString "_law_whole") = some (.ref g) ∧ Binds Z.K (PySem.W.fnOf (Str.ofString "_law_whole") qual params body scope dV kV doc pm an cdv ct) ps []
  cls : ∃ SE, ClsK Z.K Z.mg Z.xs Z.xi FK.cls SE
  frK : ∀ x ∈ FK.frs, Z.mg (Str.ofString x) = none
  frW : ∀ x ∈ FW.frs, Z.mg (Str.ofString x) = none
  FS2 : FS.kind = 2 ∧ FS.fns = ["_law_kind", "_law_whole"] ∧ FS.xns = [] ∧ FS.cns = [] ∧ FS.cls = [] ∧ FS.frs = []
  FK2 : FK.kind = 2 ∧ FK.fns = [] ∧ FK.xns = [] ∧ FK.cns = [] ∧ FK.fld = false
  FW2 : FW.kind = 2 ∧ FW.fns = [] ∧ FW.xns = [] ∧ FW.cns = [] ∧ FW.fld = false ∧ FW.cls = []
/-- what is shown of them in plain terms -/
structure PlainK (sb : Ss) (dK dW : FDef) : Prop where
  kind : ∀ a0 c0 fs w S, kindX c0 = some w → runF (hotC a0 c0 fs) dK [.exn a0 c0] S (fun v S' => v = .str (Str.ofString w) ∧ ∃ T, S' = S ++ T) fun _ _ => False
  suite : ∀ a0 (e : Exc) w S, saidV e = some w → execs (hotC a0 e.cls e.fs) sb [none, none, some (.exn a0 e.cls), none] S (koT S w)
  whole : ∀ a0 c0 fs i S, runF (hotC a0 c0 fs) dW [.int i] S (fun v S' => v = .bl true ∧ ∃ T, S' = S ++ T) fun _ _ => False
theorem saidAll {P : Program} {w : World} {Z : Zt} {base : Heap} {cs : Ltab} {FS FK FW : Facts} {sb : Ss} {dK dW : FDef} {wrd : Bool} (M : ModK Z FS FK FW sb dK dW wrd) (pl : PlainK sb dK dW) (hxd : Z.xd = []) (hT : Z.T = tabsOf cs) (nd : (cs.map (·.2.1)).Nodup) (TB : ∀ p ∈ cs, LamX.TabB base Z.mg p.1 p.2.1) : SaidAll P w Z base cs wrd := by
  intro X k c T hP hw hK hmg hbase hcode hmem hr
  subst hP hw hbase
  obtain ⟨g, oc, od, osl, dV, kV, doc, pm, an, cdv, ct, params, body, scope, N, a, lk, hcd, Sg, hN, hB, hloc, hoka, hm, hb⟩ := M.said
  obtain ⟨gk, ock, odk, oslk, dVk, kVk, dock, pmk, ank, cdvk, ctk, qualk, paramsk, bodyk, scopek, Nk, psk, lkk, hcdk, Sk, npk, nvk, hck, hmk, hbk⟩ := M.kind
  obtain ⟨gv, ocv, odv, oslv, dVv, kVv, dov, pmv, anv, cdvv, ctv, qualv, paramsv, bodyv, scopev, Nv, psv, lkv, hcdv, Sv, npv, nvv, hcv, hmv, hbv⟩ := M.whole
  obtain ⟨SE, C⟩ := M.cls
  obtain ⟨s1, s2, s3, s4, s5, s6⟩ := M.FS2
  obtain ⟨k1, k2, k3, k4, k5⟩ := M.FK2
  obtain ⟨w1, w2, w3, w4, w5, w6⟩ := M.FW2
  have hN0 : N[0]? = some a := by
    have q := Sg.pre
    cases N with
    | nil => cases q
    | cons y r =>
      simp at q
      rw [q]
      rfl
  obtain ⟨d1, d2, _⟩ := okB_d hoka
  have hva : Vis scope a := by
    rcases locB_l hloc with h | h
    · exact .inl h
    · exact .inr (.inl h)
  have giv : ∀ (Y : Cx) (q : Str), Y.K = Z.K → Y.mg = Z.mg → Room 2 Y.A → LamX.GivesTo Y N (Str.ofString "_law_said") scope g cdv body a q (TTs Z) := by
    intro Y q hYK hYm hYr
    refine gives_said hYK hYm Sg hN hB s1 s2 s3 s4 s5 s6 hxd C hYr (fun a0 oe e d Cc hke hm0 hz hdd hd g0 hg0 => ?_) pl.suite
    obtain ⟨C2, m1, hC, hV, hS, hT⟩ := C.xn e.cls (hke.elim (fun z => .inl z.2.1) fun ⟨i, j, dd, z⟩ => .inr z.2.1)
    rw [hm0] at m1
    cases m1
    rw [hYK, hYm]
    rcases hg0 with rfl | rfl
    · refine ⟨gk, _, psk, fnX_of (Z := Zd Z d e.fs) (args0 := fun vs => vs = [.exn a0 e.cls] ∧ ∃ w, kindX e.cls = some w) (ans := fun v => ∃ w, kindX e.cls = some w ∧ v = .str (Str.ofString w)) lkk hcdk Sk npk nvk hck k1 k2 k3 k4 k5 M.frK C.cl hz hdd hd hC hV hT ?_ ?_, hmk, keepIn_fn lkk, hbk⟩
      · rintro vs S Q QX (⟨h, _⟩ | ⟨_, rfl, w, hw, hQ⟩ | ⟨h, _⟩ | ⟨i, j, _, _, ⟨h, _⟩ | ⟨h, _⟩⟩)
        · exact absurd h (by decide)
        · refine ⟨⟨rfl, w, hw⟩, ?_⟩
          rintro v ⟨w2, hw2, rfl⟩ T
          rw [hw] at hw2
          cases hw2
          exact hQ T
        · exact absurd h (by decide)
        · exact absurd h (by decide)
        · exact absurd h (by decide)
      · rintro vs S ⟨rfl, w, hw⟩
        have := pl.kind a0 e.cls e.fs w S hw
        have e2 : (fun (v : Val) (S' : Sto) => (∃ w, kindX e.cls = some w ∧ v = .str (Str.ofString w)) ∧ ∃ T, S' = S ++ T) = fun v S' => v = .str (Str.ofString w) ∧ ∃ T, S' = S ++ T := by
          funext v S'
          refine propext ⟨fun ⟨⟨w2, hw2, h1⟩, h2⟩ => ?_, fun ⟨h1, h2⟩ => ⟨⟨w, hw, h1⟩, h2⟩⟩
          rw [hw] at hw2
          cases hw2
          exact ⟨h1, h2⟩
        rw [e2]
        exact this
    · refine ⟨gv, _, psv, fnX_of (Z := Zd Z d e.fs) (args0 := fun vs => ∃ i, vs = [.int i]) (ans := fun v => v = .bl true) lkv hcdv Sv npv nvv hcv w1 w2 w3 w4 w5 M.frW (fun T hT => by rw [w6] at hT; cases hT) hz hdd hd hC hV (fun T hT => by rw [w6] at hT; cases hT) ?_ ?_, hmv, keepIn_fn lkv, hbv⟩
      · rintro vs S Q QX (⟨h, _⟩ | ⟨h, _⟩ | ⟨_, hi, hQ⟩ | ⟨i, j, _, _, ⟨h, _⟩ | ⟨h, _⟩⟩)
        · exact absurd h (by decide)
        · exact absurd h (by decide)
        · refine ⟨hi, ?_⟩
          rintro v rfl T
          exact hQ T
        · exact absurd h (by decide)
        · exact absurd h (by decide)
      · rintro vs S ⟨i, rfl⟩
        exact pl.whole a0 e.cls e.fs i S
  have tabIn : (T, X.env.qual ++ "<lambda>") ∈ Z.T := by
    rw [hT]
    exact List.mem_map.mpr ⟨_, hmem, rfl⟩
  have tabOne : ∀ p ∈ Z.T, p.1 = T → p.2 = X.env.qual ++ "<lambda>" := by
    intro q hq hqT
    rw [hT] at hq
    obtain ⟨u, hu, rfl⟩ := List.mem_map.mp hq
    have : u = (c, T, X.env.qual ++ "<lambda>") := by
      have inj : ∀ {l : Ltab}, (l.map (·.2.1)).Nodup → ∀ x ∈ l, ∀ y ∈ l, x.2.1 = y.2.1 → x = y := by
        intro l
        induction l with
        | nil => intro _ x hx; cases hx
        | cons z l ih =>
          intro hnd x hx y hy hxy
          rw [List.map_cons, List.nodup_cons] at hnd
          rcases List.mem_cons.mp hx with rfl | hx
          · rcases List.mem_cons.mp hy with rfl | hy
            · rfl
            · exact absurd (List.mem_map.mpr ⟨y, hy, hxy.symm⟩) hnd.1
          · rcases List.mem_cons.mp hy with e | hy
            · rw [e] at hxy
              exact absurd (List.mem_map.mpr ⟨x, hx, hxy⟩) hnd.1
            · exact ih hnd.2 x hx y hy hxy
      exact inj nd u hu _ hmem hqT
    rw [this]
  have TBX : LamX.TabB X.base X.mg c T := by rw [hmg]; exact TB _ hmem
  refine ⟨?_, fun hwrd => ?_⟩
  · intro t body2 scope2 p lpos pos L gl hbody
    exact LamX.pe_lamcall (c := c) (P := T) (a := a) (Ng := N) gl (by rw [hmg]; exact hm) (by rw [hK]; exact keepIn_fn lk) (by rw [hK]; exact lk) (by rw [hK]; exact hcd) (by rw [hK]; exact hb) Sg hN0 hva (giv X _ hK hmg (hr.mono (by omega))) TBX hcode tabIn tabOne (hr.mono (by omega)) L rfl (fun _ _ _ _ _ => rfl) hbody (by decide) d1 d2
  · obtain ⟨gw, ocw, odw, oslw, dVw, kVw, docw, pmw, anw, cdw, ctw, paramsw, bodyw, scopew, aw, lkw, hcw, Sw, hvw, hgw, hlw, hokw, hmw, hbw⟩ := M.word hwrd
    obtain ⟨dw1, dw2, _⟩ := okB_d hokw
    have hvaw : Vis scopew aw := by
      rcases locB_l hlw with h | h
      · exact .inl h
      · exact .inr (.inl h)
    intro t body2 scope2 p lpos pos L gl hbody
    refine ⟨fun pins s σ H Q I h => ?_⟩
    obtain ⟨tabs0, h⟩ := h
    have gmw : X.mg (Str.ofString "_law_word") = some (.ref gw) := by rw [hmg]; exact hmw
    have gms : X.mg (Str.ofString "_law_said") = some (.ref g) := by rw [hmg]; exact hm
    refine wpAny_Call_Name_kw (ld_glob I gl gmw ?_ (by decide))
    refine PySem.W.callWith_K (h₀ := X.base) I.ok.mod.kin (by rw [hK]; exact keepIn_fn lkw) ?_ (by rfl) (by rfl)
    show wpAny _ _ (spliced ((false, eval (.Lambda ⟨[], [], none, [], [], none, []⟩ body2 scope2 lpos) X.env) :: backTo pos (starEach [] X.env))) _ _ s
    refine Calls.spliced_cons (LamX.lam_make2 I TBX hcode tabIn tabOne tabs0 rfl (L.has I.ok) fun f c' pm' ctv H1 s' I1 eN T1 hf hfn hfr hco => ?_)
    refine Calls.spliced_nil ⟨I1.kIn, ?_⟩
    have ranW : codeAny (model X.prog X.w) X.A (.call (.ref gw) ⟨[.ref f], []⟩) (CR C8.CX0 X.stack X.prog X.w H1 s' Q C8.E0) s' := by
      refine LamX.run_ofS (N := [aw]) (ps := [aw]) (us := [.ref f]) (vs := [.ref f]) (k := k + 2) (by rw [hK]; exact lkw) (by rw [hK]; exact hcw) Sw hr I1.env0 ((show L2.Binds X.K _ [aw] [] by rw [hK]; exact hbw) s' [.ref f] I1.kIn rfl) (.cons rfl .nil) rfl fun hrw => ?_
      obtain ⟨p1, p2, p3, kk, p4, p5, p6, rfl⟩ := vWord_eq hvw
      have callPE : PE (cxOf C8.CX0 X.prog X.w X.K X.mg X.base [aw] (Str.ofString "_law_word") scopew gw cdw X.A X.stack s' H1 C8.E0) (.Call (.Name (Str.ofString "_law_said") p1) [.Name aw p2] [] p3)
          (fun σw Hw Qw => σw[0]? = some (some (.ref f)) ∧ Hw c' = some (LamX.CodeO c' (X.env.qual ++ "<lambda>")) ∧ TTs Z (fun E H' Q' => t E σ H' Q') Hw Qw) := by
        refine ⟨fun pw s2 σw Hw Qw Iw ⟨q1, q2, q3⟩ => ?_⟩
        refine wpAny_Call_Name_kw (ld_glob Iw (glB_g hgw) gms ?_ (by decide))
        refine PySem.W.callWith_K (h₀ := X.base) Iw.ok.mod.kin (show PySem.W.keepIn X.K (.ref g) = true by rw [hK]; exact keepIn_fn lk) (thn ((pa_cons (X := cxOf C8.CX0 X.prog X.w X.K X.mg X.base [aw] (Str.ofString "_law_word") scopew gw cdw X.A X.stack s' H1 C8.E0) (pe_var (i := 0) (pos := p2) rfl hvaw dw1 dw2) pa_nil rfl).run p3 pw s2 σw Hw (fun xs H3 => xs = [.ref f] ∧ H3 = Hw) Iw ⟨_, q1, rfl, rfl⟩) ?_) (by rfl) (by rfl)
        rintro us s3 ⟨xs, H3, I3, r3, rfl, rfl⟩
        refine ⟨I3.kIn, ?_⟩
        cases r3 with
        | cons ru rr =>
        cases rr
        rename_i u
        obtain rfl : u = Value.ref f := ru
        have ranS : codeAny (model X.prog X.w) (X.A.deeper (envOfC (Str.ofString "_law_word") scopew s'.heap.objs.size gw cdw)) (.call (.ref g) ⟨[.ref f], []⟩) (CR C8.CX0 (envOfC (Str.ofString "_law_word") scopew s'.heap.objs.size gw cdw :: X.stack) X.prog X.w H3 s3 Qw C8.E0) s3 := by
          refine LamX.run_ofS (N := N) (ps := [a]) (us := [.ref f]) (vs := [.ref f]) (k := k + 1) (by rw [hK]; exact lk) (by rw [hK]; exact hcd) Sg hrw I3.env0 ((show L2.Binds X.K _ [a] [] by rw [hK]; exact hb) s3 [.ref f] I3.kIn rfl) (.cons rfl .nil) rfl fun hrs => ?_
          obtain ⟨t', ht', hq'⟩ := giv (cxOf C8.CX0 X.prog X.w X.K X.mg X.base [aw] (Str.ofString "_law_word") scopew gw cdw X.A X.stack s' H1 C8.E0) (X.env.qual ++ "<lambda>") hK hmg (hrw.mono (by omega)) f c' s3 H3 Qw (fun E H' Q' => t E σ H' Q')
            (fun W pn xe E q1 q2 tk hW => pe_actZ (i := 0) I1 L hf hfn hfr (fun pz σz Hz sz Iz => (I3.call' (ch := []) Iz.os Iz.base Iz.hok Iz.bare (fun b z => absurd z (by simp))).base) rfl tk hW hrs (fun A outer s H hr3 => hbody A outer s H E f c' hr3) hN0 hva d1 d2) q2 q3
          exact ⟨t', ht'.nox, hq'⟩
        refine wpAny_call (codeAny_mono ranS fun r s4 hq => ?_)
        cases r with
        | error e => exact (show False from hq).elim
        | ok fl =>
          cases fl with
          | ret u => exact I3.after hq
          | next => exact False.elim hq
          | brk => exact False.elim hq
          | cont => exact False.elim hq
      refine ⟨_, pss_one (ps_ret (pe_ix ix_seq (pe_more callPE) (pe_int (i := 0) (j := kk) (pos := p4)) (plain_ok rfl))), ?_⟩
      refine ⟨_, ⟨rfl, hco, h H1 eN T1⟩, ?_⟩
      rintro v H' ⟨pp, x, xs, rfl, hs, q⟩
      exact .inr (.inl ⟨pp, x :: xs, 0, x, rfl, rfl, (show SqT X.K H' pp (x :: xs) by rw [hK]; exact hs), by simpa using atI_nat (xs := x :: xs) (j := 0) rfl, q⟩)
    refine wpAny_call (codeAny_mono ranW fun r s4 hq => ?_)
    cases r with
    | error e => exact (show False from hq).elim
    | ok fl =>
      cases fl with
      | ret u => exact I1.after hq
      | next => exact False.elim hq
      | brk => exact False.elim hq
      | cont => exact False.elim hq
end Mp

set_option Elab.async false
set_option linter.all false
set_option maxRecDepth 100000
set_option autoImplicit false
set_option maxHeartbeats 2000000
/-! Mini20: the law's own call. -/
namespace Mp
open PySem PySem.Spec PyProof.Rows L2
/-- no list is known of the top -/
def noLst (K : PySem.W.Frag) : Bool := K.all fun p => match p.2.cls with
  | .type c => c != "list"
  | _ => true
theorem noLst_ok {K : PySem.W.Frag} (h : noLst K = true) {a : Addr} {o : PySem.Obj} (e : K.lookup a = some o) : o.cls ≠ .type "list" := fun z => by
  have q := List.all_eq_true.mp h _ (He.lookup_mem e)
  simp only [z] at q
  simp at q
/-- the law's promise, at the heap behind the top; the script is known to the store as a list that is only read; the tables of code objects are empty -/
theorem law_enter {P : Program} {w : World} {K : PySem.W.Frag} {mg mb : Str → Option Value} {n : Nat} {fa a : Addr} {s₁ : Shared} {vs : List Value} {ns : List Int} {F : Facts} {G : Table} {ln : String} {xs xi : List String} {cs : Ltab} {FS FK FW : Facts} {sb : Ss} {dK dW : FDef}
    (KX : K.In s₁.heap) (hns : s₁.heap.Ns mainGlobals mg) (hb : s₁.heap.Ns builtinsNs mb) (hbb : ∀ x : Str, x ≠ "__name__" → mb x = bootBuiltins x) (hlim : s₁.heap.NoLimit) (hg : s₁.gens = #[])
    (hbm : ∃ (bm : Addr) (ob : PySem.Obj), mg "__builtins__" = some (.ref bm) ∧ bm ≠ builtinsNs ∧ s₁.heap.get? bm = some ob ∧ ob.cls = .type "module" ∧ ob.dict = some builtinsNs ∧ ob.data = .plain)
    (ha : s₁.heap.get? a = some { cls := .type "list", data := .seq vs.toArray }) (hi : IntsAre vs ns) (hl : ns.length ≤ sizeLine) (hr : Room (4 * n) callerA) (hgd : callerA.guards = some []) (noL : noLst K = true)
    (M : ModM w ⟨K, tabsOf cs, mg, xs, xi, []⟩ F G cs) (ML : ModM w ⟨K, tabsOf cs, mg, xs, xi, []⟩ F.low G cs) (h0 : F.kind = 0)
    (tE : ∀ p ∈ cs, s₁.heap.get? p.2.1 = some { cls := .none, data := .fields #[] }) (tN : ∀ p ∈ cs, K.lookup p.2.1 = none) (tC : ∀ p ∈ cs, PySem.W.codeHdIn K p.1 p.2.1 = true) (nd : (cs.map (·.2.1)).Nodup)
    (MK : cs ≠ [] → ModK ⟨K, tabsOf cs, mg, xs, xi, []⟩ FS FK FW sb dK dW F.wrd ∧ PlainK sb dK dW)
    (hln : ln ∈ F.fns) (hmg : mg (Str.ofString ln) = some (.ref fa)) {AA : String → Addr} (hA : ∀ g ∈ F.fvs, mg (Str.ofString g) = some (.ref (AA g)))
    (hsp : callN (withF G F.fvs AA) n ln [.obj 0] [.frz (ns.map .int)] (fun v _ => v = .bl true) fun _ _ => False) :
    codeAny (model P w) callerA (.call (.ref fa) ⟨[.ref a], []⟩) (fun r s' => r = .ok (.ret (.bool true)) ∧ OldK s₁.heap s'.heap ∧ s'.os = s₁.os ∧ AllBare s'.gens) s₁ := by
  have rv := vals_ints hi
  have ka : K.lookup a = none := by
    cases hk : K.lookup a with
    | none => rfl
    | some o =>
      have e := KX a o hk
      rw [ha] at e
      cases e
      exact absurd rfl (noLst_ok noL hk)
  obtain ⟨Ts, hTs⟩ : ∃ Ts : List Addr, Ts = cs.map (·.2.1) := ⟨_, rfl⟩
  have at1 : ∀ b ∈ Ts, s₁.heap.get? b = some { cls := .none, data := .fields #[] } ∧ K.lookup b = none := by
    intro b hb
    rw [hTs] at hb
    obtain ⟨p, hp, rfl⟩ := List.mem_map.mp hb
    exact ⟨tE p hp, tN p hp⟩
  have aT : a ∉ Ts := fun z => by
    have q := (at1 a z).1
    rw [ha] at q
    have q2 : Data.seq vs.toArray _ = Data.fields #[] := congrArg PySem.Obj.data (Option.some.inj q)
    cases q2
  obtain ⟨H, hH⟩ : ∃ H : Hp, H = fun b => if b = a then some (.frz { cls := .type "list", data := .seq vs.toArray } (.lst (ns.map V.int))) else if b ∈ Ts then some (.tbl #[]) else none := ⟨_, rfl⟩
  have Ha : H a = some (.frz { cls := .type "list", data := .seq vs.toArray } (.lst (ns.map V.int))) := by rw [hH]; exact if_pos rfl
  have Ht : ∀ b ∈ Ts, H b = some (.tbl #[]) := fun b hb => by
    rw [hH]
    exact (if_neg (fun z : b = a => aT (by rw [← z]; exact hb))).trans (if_pos hb)
  have Hn : ∀ b, b ≠ a → b ∉ Ts → H b = none := fun b h1 h2 => by
    rw [hH]
    exact (if_neg h1).trans (if_neg h2)
  have hok : HOk P w H s₁.heap := fun b u z => by
    by_cases q : b = a
    · subst q
      rw [Ha] at z
      cases z
      exact ⟨ha, by rw [List.length_map]; exact hl, vs, _, rv, ha⟩
    · by_cases q2 : b ∈ Ts
      · rw [Ht b q2] at z
        cases z
        exact (at1 b q2).1
      · rw [Hn b q q2] at z
        cases z
  have away : ∀ {b : Addr} {o : PySem.Obj}, s₁.heap.get? b = some o → (∀ vs n, o.data ≠ .seq vs n) → o.data ≠ .fields #[] → (hidT s₁.heap H).get? b = some o := fun {b o} e h1 h2 => by
    refine hidT_get e (Hn b (fun q => ?_) fun q => ?_)
    · subst q
      rw [ha] at e
      cases e
      exact h1 _ _ rfl
    · rw [(at1 b q).1] at e
      cases e
      exact h2 rfl
  have nsK : ∀ {b : Addr} {m : Str → Option Value}, s₁.heap.Ns b m → (hidT s₁.heap H).Ns b m := fun {b m} ⟨o, es, ep, e, d, r⟩ => ⟨o, es, ep, away e (fun _ _ z => by rw [d] at z; cases z) (fun z => by rw [d] at z; cases z), d, r⟩
  have hKb : K.In (hidT s₁.heap H) := fun b o e => hidT_get (KX b o e) (Hn b (fun q => by rw [q, ka] at e; cases e) fun q => by rw [(at1 b q).2] at e; cases e)
  have hM : Mod K mg (hidT s₁.heap H) := ⟨hKb, nsK hns, ⟨mb, nsK hb, hbb⟩, let ⟨mc, h1, h2⟩ := hlim; ⟨mc, nsK h1, h2⟩⟩
  have TB : ∀ p ∈ cs, LamX.TabB (hidT s₁.heap H) mg p.1 p.2.1 := fun p hp => by
    have hTp := tE p hp
    have nGT : mainGlobals ≠ p.2.1 := fun z => by
      obtain ⟨o, es, ep, e, d, _⟩ := hns
      rw [z, hTp] at e
      cases e
      cases d
    refine NdefX.tabB_of_K hKb (tC p hp) ?_ nGT
    obtain ⟨bm, ob, b1, b2, b3, b4, b5, b6⟩ := hbm
    refine ⟨bm, ob, b1, b2, fun q => ?_, fun q => ?_, away b3 (fun _ _ z => by rw [b6] at z; cases z) (fun z => by rw [b6] at z; cases z), b4, b5, b6⟩
    · obtain ⟨o, es, ep, e, d, _⟩ := hns
      rw [q, e] at b3
      cases b3
      rw [d] at b6
      cases b6
    · rw [q, hTp] at b3
      cases b3
      cases b6
  have e0 : Env0 P w K mg (hidT s₁.heap H) callerA [] s₁ H := ⟨rfl, hM, fun b o e => of_hidT e, Nat.le_of_eq (hidT_size _ _), trivial, fun b hb => absurd (show b ∈ ([] : List Addr) from hb) (by simp), hok, .of_eq hg⟩
  have R : Rep ⟨K, tabsOf cs, mg, xs, xi, []⟩ [a] [.frz (ns.map .int)] H := by
    refine ⟨rfl, by simp, fun n o b e eb => ?_, fun p hp => ?_, fun p hp => by cases hp⟩
    · cases n with
      | zero =>
        simp at e eb
        subst e eb
        exact ⟨_, _, Ha, RVs.of_ints ns⟩
      | succ n => simp at e
    · obtain ⟨u, hu, rfl⟩ := List.mem_map.mp hp
      exact LamX.TabS.nil (Ht _ (by rw [hTs]; exact List.mem_map.mpr ⟨u, hu, rfl⟩))
  obtain ⟨fa', fd, ps, hF, hm, _, hbd, _⟩ := (modG (P := P) (w := w) (base := hidT s₁.heap H) M ML h0 hA (fun hne => saidAll (MK hne).1 (MK hne).2 rfl rfl nd TB) n).1 ln hln
  have hfa : fa' = fa := by
    have hm : mg (Str.ofString ln) = some (.ref fa') := hm
    rw [hmg] at hm
    cases hm
    rfl
  subst hfa
  have hsp' : spI ⟨K, tabsOf cs, mg, xs, xi, []⟩ (callN (withF G F.fvs AA) n) ln [.ref a] H (fun v _ => v = .bl true) (fun _ _ _ => False) :=
    ⟨[a], _, [.obj 0], _, _, R, RVs.cons (by simp only [RV]; exact ⟨a, rfl, rfl⟩) RVs.nil, hsp, fun v S' m' H' x p _ _ rx => by subst p; simpa only [RV] using rx, fun _ _ _ _ _ _ q => q.elim⟩
  have hps : ps.length = 1 := (hF.len _ _ _ _ hsp').symm
  refine codeAny_mono (hF.run callerA [] s₁ H ⟨[.ref a], []⟩ [.ref a] [.ref a] (fun v _ => v = .bl true) (fun _ _ _ => False) hr (fun _ => hgd) e0 (hbd s₁ [.ref a] KX (by simp [hps])) (.cons rfl .nil) hsp') fun r s' h => ?_
  cases r with
  | error e =>
    obtain ⟨_, _, _, _, _, _, _, _, _, _, _, _, h⟩ := h
    exact h.elim
  | ok fl =>
    cases fl with
    | next => exact False.elim h
    | brk => exact False.elim h
    | cont => exact False.elim h
    | ret u =>
      obtain ⟨v, H', os, bare, un, hok', r', q⟩ := h
      have q' : v = .bl true := q
      subst q'
      obtain rfl : u = Value.bool true := r'
      have more : ∀ b ∈ Ts, ∃ m : Array Value, s'.heap.get? b = some { cls := .none, data := .fields m } := fun b hb => let ⟨m, z⟩ := un.tbls b #[] (Ht b hb); ⟨_, hok' b _ z⟩
      have rest : ∀ b o, b ∉ Ts → s₁.heap.get? b = some o → s'.heap.get? b = some o := fun b o nb e => by
        by_cases q : b = a
        · subst q
          have z2 := un.frzs b _ _ Ha
          obtain ⟨e2, _⟩ := hok' b _ z2
          rw [ha] at e; cases e
          exact e2
        · exact un.keep b o e (Hn b q nb) (by intro z; exact absurd (show b ∈ ([] : List Addr) from z) (by simp)) (by simp)
      refine ⟨rfl, ⟨fun b o e => ?_, fun b o e => ?_⟩, os, bare⟩
      · by_cases hb : b ∈ Ts
        · obtain ⟨m, hm⟩ := more b hb
          rw [hTs] at hb
          obtain ⟨p, hp, rfl⟩ := List.mem_map.mp hb
          rw [tE p hp] at e
          cases e
          exact .inr (.inl ⟨((PySem.W.codeHd_of_K KX (tC p hp)).tab (tE p hp)).isCodeTable, rfl, #[], m, rfl, by rw [Array.empty_append]; exact hm⟩)
        · exact .inl (rest b o hb e)
      · by_cases hb : b ∈ Ts
        · exact let ⟨m, hm⟩ := more b hb; ⟨_, hm⟩
        · exact ⟨o, rest b o hb e⟩
/-- what a head leaves of the law -/
structure LawF (w : World) (K : PySem.W.Frag) (mg : Str → Option Value) (h : Heap) (F : Facts) (G : Table) (FS FK FW : Facts) (sb : Ss) (dK dW : FDef) : Prop where
  ex : ∃ (xs xi : List String) (cs : Ltab), K.In h ∧ noLst K = true ∧ ModM w ⟨K, tabsOf cs, mg, xs, xi, []⟩ F G cs ∧ ModM w ⟨K, tabsOf cs, mg, xs, xi, []⟩ F.low G cs ∧
    (∀ p ∈ cs, h.get? p.2.1 = some { cls := .none, data := .fields #[] }) ∧ (∀ p ∈ cs, K.lookup p.2.1 = none) ∧ (∀ p ∈ cs, PySem.W.codeHdIn K p.1 p.2.1 = true) ∧ (cs.map (·.2.1)).Nodup ∧ (cs ≠ [] → ModK ⟨K, tabsOf cs, mg, xs, xi, []⟩ FS FK FW sb dK dW F.wrd ∧ PlainK sb dK dW)
/-- the end that the head leaves -/
theorem walk_mini {l : PySem.W.OpenLaw} {n k : Nat} {q : Program} {loose : List Str} {XP : (Str → Option Value) → Heap → Prop} {YP : World → Heap → Prop} {d : DefRec} {F : Facts} {G : Table} {ln : String} {FS FK FW : Facts} {sb : Ss} {dK dW : FDef}
    (hn : l.most = some n) (hn2 : n ≤ sizeLine) (hdf : d.params.defaults = []) (hr : Room (4 * k) callerA) (hgd : callerA.guards = some []) (hname : d.name = Str.ofString ln) (hln : ln ∈ F.fns) (h0 : F.kind = 0)
    (Fn : ∀ (w : World) (mg : Str → Option Value) (fa : Addr) (h : Heap), YP w h → h.Ns mainGlobals mg → mg d.name = some (.ref fa) → ∃ K : PySem.W.Frag, LawF w K mg h F G FS FK FW sb dK dW)
    (hfv : ∀ g ∈ F.fvs, g ∈ F.fns) (hsp : ∀ (AA : String → Addr) (ns : List Int), ns.length ≤ n → callN (withF G F.fvs AA) k ln [.obj 0] [.frz (ns.map .int)] (fun v _ => v = .bl true) fun _ _ => False) :
    PySem.W.WalkO q loose XP YP l.row.toRowW d [] (fun f vs => PySem.call f vs) := by
  refine Att.attach_call hn hdf fun w s₀ s₁ mg mb fa o pm cd doc a vs ns G Y ho hd hcd hmg hobj hints hlen hg => ?_
  obtain ⟨K, xs, xi, cs, KX, noL, M, ML, tE, tN, tC, nd, MK⟩ := Fn w mg fa _ Y G.T.g hmg
  rw [hname] at hmg
  obtain ⟨AA, hA⟩ : ∃ AA : String → Addr, ∀ g ∈ F.fvs, mg (Str.ofString g) = some (.ref (AA g)) := by
    refine ⟨fun g => match mg (Str.ofString g) with
      | some (.ref b) => b
      | _ => 0, fun g hg => ?_⟩
    obtain ⟨b, z1, z2, z3, z4, z5, z6, z7, z8, z9, za, zb, zc, zd, ze, zf, zg, zh, zi, zj, zk, zl, zm, zn, zo, zp, hm, zq⟩ := M.fns g (hfv g hg)
    have hm : mg (Str.ofString g) = some (.ref b) := hm
    show mg (Str.ofString g) = some (.ref (match mg (Str.ofString g) with
      | some (.ref b) => b
      | _ => 0))
    rw [hm]
  exact law_enter KX G.T.g G.T.b G.T.builtins G.T.nolimit hg G.T.bmain hobj hints (Nat.le_trans hlen hn2) hr hgd noL M ML h0 tE tN tC nd MK hln hmg hA (hsp AA ns hlen)
end Mp

set_option Elab.async false
set_option linter.all false
set_option maxRecDepth 100000
set_option autoImplicit false
set_option maxHeartbeats 2000000
/-! Mini21: the module's facts from the head's. -/
namespace Mp
open PySem PySem.Spec PyProof.Rows L2
structure Row where
  f : String
  st : Stmt
  N : List Str
  ps : List Str
  dfl : List Val := []
  lam : Bool := false
def scB (N P : List Str) (sc : Scope) : Bool := (match sc.kind with | .function => true | _ => false) && !sc.isCoroutine && !sc.isGenerator && decide N.Nodup && decide (N.take P.length = P) && P.all (fun x => locB sc x) && sc.names.all fun y => (match y.2 with | .free => false | _ => true)
theorem scB_ok {N P : List Str} {sc : Scope} (h : scB N P sc = true) : FnScope N P sc := by
  unfold scB at h
  obtain ⟨h, h7⟩ := and2 h
  obtain ⟨h, h6⟩ := and2 h
  obtain ⟨h, h5⟩ := and2 h
  obtain ⟨h, h4⟩ := and2 h
  obtain ⟨h, h3⟩ := and2 h
  obtain ⟨h, h2⟩ := and2 h
  refine ⟨?_, by simpa using h2, by simpa using h3, of_decide_eq_true h4, of_decide_eq_true h5, fun x hx => locB_l (List.all_eq_true.mp h6 x hx), fun y hy e => ?_⟩
  · split at h
    · assumption
    · cases h
  · have q := List.all_eq_true.mp h7 y hy
    rw [e] at q
    cases q
def rowB (F : Facts) (G : Table) (r : Row) : Bool := match G r.f with
  | some d => scB r.N r.ps (defScope r.st) && decide (d.np = r.ps.length) && decide (d.nv = r.N.length) && chkSs { F with lam := r.lam } r.N (defScope r.st) d.body (defBody r.st) && F.dfs.all (fun p => !(p.1 == r.f) || (valsB p.2 r.dfl && !r.dfl.isEmpty))
  | none => false
def toDv : Val → He.Dv
  | .int i => .int i
  | .bl b => .bl b
  | .str x => .str x
  | _ => .non
def dvB : Val → Bool
  | .int _ => true | .bl _ => true | .str _ => true | .non => true
  | _ => false
theorem toDv_r {K : PySem.W.Frag} : ∀ {l : List Val}, l.all dvB = true → ∀ (K2 : PySem.W.Frag) (m : List Addr) (H : Hp), RVs K2 H m l ((l.map toDv).map (He.Dv.v K))
  | [], _, _, _, _ => RVs.nil
  | v :: l, h, K2, m, H => by
    rw [List.all_cons] at h
    obtain ⟨h1, h2⟩ := and2 h
    refine RVs.cons ?_ (toDv_r h2 K2 m H)
    cases v <;> first | exact absurd h1 Bool.false_ne_true | simp only [RV, toDv, He.Dv.v]
def mkD (r : Row) : He.DefD := ⟨(Str.ofString r.f, none), Str.ofString r.f, Str.ofString r.f, defArgs r.st, defBody r.st, defScope r.st, r.dfl.map toDv, []⟩
/-- how the values come to the parameters -/
def BindsP (r : Row) : Prop := if r.dfl = [] then
    ∀ (kV doc pm : Value) (an : Option Addr) (cdv ct : Value) (us : List Value), us.length = r.ps.length → bindArgs (PySem.W.fnOf (Str.ofString r.f) (Str.ofString r.f) (defArgs r.st) (defBody r.st) (defScope r.st) .none kV doc pm an cdv ct) ⟨us, []⟩ = pure (r.ps.zip us)
  else r.dfl.length ≤ r.ps.length ∧ ∀ j, j = 0 ∨ j = r.dfl.length → ∀ (T : Addr) (kV doc pm : Value) (an : Option Addr) (cdv ct : Value) (us its : List Value), us.length = r.ps.length - (r.dfl.length - j) → its.length = r.dfl.length →
    ∃ k, bindArgs (PySem.W.fnOf (Str.ofString r.f) (Str.ofString r.f) (defArgs r.st) (defBody r.st) (defScope r.st) (.ref T) kV doc pm an cdv ct) ⟨us, []⟩ = seqItems? (.ref T) >>= k ∧ k (some its.toArray) = pure (r.ps.zip (us ++ its.drop j))
theorem binds_row {K : PySem.W.Frag} {r : Row} {f : Addr} {fd : FuncData} (hb : BindsP r) (hv : r.dfl.all dvB = true) (FD : FunD K (Str.ofString r.f) (Str.ofString r.f) (defArgs r.st) (defBody r.st) (defScope r.st) ((r.dfl.map toDv).map (He.Dv.v K)) [] f fd) :
    Binds K fd r.ps [] ∧ (r.dfl ≠ [] → DflR K fd r.ps r.dfl) := by
  unfold BindsP at hb
  by_cases h : r.dfl = []
  · rw [if_pos h] at hb
    rw [h] at FD
    exact ⟨FD.bindsN hb, fun q => absurd h q⟩
  · rw [if_neg h] at hb
    obtain ⟨hl, hb⟩ := hb
    have hd : (r.dfl.map toDv).map (He.Dv.v K) ≠ [] := by simpa using h
    have len : ((r.dfl.map toDv).map (He.Dv.v K)).length = r.dfl.length := by simp
    have hpos : 0 < r.dfl.length := List.length_pos_iff.mpr h
    constructor
    · obtain ⟨ds, h1, h2⟩ := FD.binds1 (ps := r.ps) r.ps.length r.dfl.length hd (by rw [len]; omega) fun T kV doc pm an cdv ct us its h1 h2 => hb _ (.inr rfl) T kV doc pm an cdv ct us its (by rw [h1]; omega) (by rw [h2, len])
      rw [← len, List.drop_length] at h1
      cases h1
      exact h2
    · intro _
      obtain ⟨ds, h1, h2⟩ := FD.binds1 (ps := r.ps) (r.ps.length - r.dfl.length) 0 hd (by rw [len]; omega) fun T kV doc pm an cdv ct us its h1 h2 => hb _ (.inl rfl) T kV doc pm an cdv ct us its (by rw [h1]; omega) (by rw [h2, len])
      rw [List.drop_zero] at h1
      exact ⟨_, ds, h1, h2, fun m H => toDv_r hv K m H⟩
def conFa (p : String × Val) : He.Fa := match p.2 with
  | .int i => .int (Str.ofString p.1) i
  | .str z => .str (Str.ofString p.1) z
  | .tup _ => .glo (Str.ofString p.1)
  | _ => .free (Str.ofString p.1)
def conF (p : String × Val) : Bool := match p.2 with
  | .int _ => true | .str _ => true
  | .tup l => l.all dvB
  | _ => false
/-- a tuple of the module -/
def tupC (K : PySem.W.Frag) (p : String × Val) : Bool := match p.2 with
  | .tup l => He.tupB K (Str.ofString p.1) (l.map toDv)
  | _ => true
/-- a dict of the module with texts as keys: its entries -/
def keyB (x : Str) (e : DictEntry) : Bool := match e.key with
  | .str y _ => decide (y = x)
  | _ => false
theorem keyB_ok {x : Str} {e : DictEntry} (h : keyB x e = true) : He.keyOf e = some (x, e.hash) := by
  unfold keyB at h
  unfold He.keyOf
  split at h
  · rename_i y t q
    have e1 : y = x := of_decide_eq_true h
    rw [q, e1]
  · cases h
def envB (K : PySem.W.Frag) : List (Str × Val) → List DictEntry → Bool
  | [], es => es.isEmpty
  | p :: l, es => match es with
    | e :: r => keyB p.1 e && dvB p.2 && He.relB ((toDv p.2).v K) e.val && envB K l r
    | [] => false
theorem envB_ok {K : PySem.W.Frag} : ∀ {l : List (Str × Val)} {es : List DictEntry}, envB K l es = true → EnV l es
  | [], es, h => List.isEmpty_iff.mp h
  | p :: l, [], h => by cases h
  | p :: l, e :: r, h => by
    obtain ⟨h, h4⟩ := and2 (show (keyB p.1 e && dvB p.2 && He.relB ((toDv p.2).v K) e.val && envB K l r) = true from h)
    obtain ⟨h, h3⟩ := and2 h
    obtain ⟨h1, h2⟩ := and2 h
    refine ⟨e, r, (toDv p.2).v K, rfl, keyB_ok h1, fun K2 H m => ?_, He.relB_ok h3, envB_ok h4⟩
    obtain ⟨x, v⟩ := p
    cases v <;> first | exact absurd h2 Bool.false_ne_true | simp only [RV, toDv, He.Dv.v]
def dcvB (K : PySem.W.Frag) (p : String × List (Str × Val)) : Bool := (match K.lookup (He.ga K (Str.ofString p.1)) with
  | some ⟨.type c, none, .dict es _, sl⟩ => decide (c = "dict") && sl.isEmpty && envB K p.2 es.toList
  | _ => false) && !(He.ga K (Str.ofString p.1) == sysModules) && decide (p.2.map (·.1)).Nodup && decide (p.2.length ≤ 1000)
theorem dcvB_ok {K : PySem.W.Frag} {mg : Str → Option Value} {w : World} {p : String × List (Str × Val)} (h : dcvB K p = true) (hm : mg (Str.ofString p.1) = some (.ref (He.ga K (Str.ofString p.1)))) (hd : He.dicW K (He.ga K (Str.ofString p.1)) = some (He.keysIn w.params (p.2.map (·.1)))) : DcF K mg w p := by
  unfold dcvB at h
  obtain ⟨h, h0⟩ := and2 h
  obtain ⟨h, h3⟩ := and2 h
  obtain ⟨h1, h2⟩ := and2 h
  split at h1
  · rename_i c es n sl e
    obtain ⟨h1, h5⟩ := and2 h1
    obtain ⟨h6, h7⟩ := and2 h1
    have e1 : c = "dict" := of_decide_eq_true h6
    have e2 : sl = #[] := Array.isEmpty_iff.mp h7
    subst e1 e2
    have h2' : (He.ga K (Str.ofString p.1) == sysModules) = false := by
      cases q : (He.ga K (Str.ofString p.1) == sysModules) with
      | false => rfl
      | true => rw [q] at h2; cases h2
    refine ⟨_, es, n, hm, e, h2', ?_, of_decide_eq_true h3, of_decide_eq_true h0, envB_ok h5⟩
    have hd2 : (match decide ("dict" = "dict") && ((#[] : Array (Option Value)).isEmpty && !(He.ga K (Str.ofString p.1) == sysModules)) with
      | true => some (es.toList.map He.keyOf)
      | false => none) = some (He.keysIn w.params (p.2.map (·.1))) := by
      unfold He.dicW at hd
      rw [e] at hd
      exact hd
    rw [h2'] at hd2
    exact Option.some.inj hd2
  · cases h1
/-- the table of modules is a dict -/
def smB (K : PySem.W.Frag) : Bool := match K.lookup sysModules with
  | some ⟨.type c, _, _, _⟩ => decide (c = "dict")
  | _ => false
theorem smB_ok {K : PySem.W.Frag} (h : smB K = true) : SmF K := by
  unfold smB at h
  split at h
  · rename_i c od dt sl e
    have e1 : c = "dict" := of_decide_eq_true h
    subst e1
    exact ⟨_, e, rfl⟩
  · cases h
def tsOf (F : Facts) : List He.Tab := F.dcs.map fun p => ((fun K => He.ga K (Str.ofString p.1)), p.2.map (·.1))
theorem tsOf_ok {F : Facts} {K : PySem.W.Frag} {w : World} {fa : List He.Fa} {fn : List He.DefD} (c : He.SaysT fa fn (tsOf F) w K) {p : String × List (Str × Val)} (hp : p ∈ F.dcs) : He.dicW K (He.ga K (Str.ofString p.1)) = some (He.keysIn w.params (p.2.map (·.1))) := by
  have h : (tsOf F).map (fun t => He.dicW K (t.1 K)) = (tsOf F).map (fun t => some (He.keysIn w.params t.2)) := congrArg (fun z : He.AlT => z.2) c
  exact List.map_inj_left.mp h _ (List.mem_map.mpr ⟨p, hp, rfl⟩)
/-- the defs that make a lambda -/
def tfOf (rows : List Row) : List He.Defn := (rows.filter (·.lam)).map fun r => (Str.ofString r.f, none)
def csOf (K : PySem.W.Frag) (tf : List He.Defn) : Ltab := tf.map fun p => ((He.cT K p).1, (He.cT K p).2, (p.1 ++ ".<locals>.") ++ "<lambda>")
def factsOf (F : Facts) : List He.Fa := F.fns.map (fun f => .glo (Str.ofString f)) ++ F.frs.map (fun x => .free (Str.ofString x)) ++ (F.cns.map conFa ++ F.dcs.map (fun p => .glo (Str.ofString p.1)))
/-- what is asked of the classes of errors -/
def factsC (F FK : Facts) : List He.Fa := ((F.xns ++ F.xis).map (fun c => .glo (Str.ofString c)) ++ F.xns.map (fun c => .exc (Str.ofString c)) ++
  (if F.wrd = true then [.glo (Str.ofString "_law_word")] else []) ++ (if FK.cls.isEmpty = true then [] else [.glo (Str.ofString "StepError"), .glo (Str.ofString "_law_said"), .glo (Str.ofString "_law_kind"), .glo (Str.ofString "_law_whole")] ++ (F.xns ++ F.xis).map (fun c => .exm (Str.ofString c) (Str.ofString "StepError") true) ++ FK.cls.map (fun c => .glo (Str.ofString c)) ++ FK.cls.map (fun c => .keep (Str.ofString c)) ++ FK.frs.map fun c => .free (Str.ofString c))) ++
  F.xis.map fun _ => .glo (Str.ofString "StepError")
def excCB (K : PySem.W.Frag) (D : Addr) : Bool :=
  He.eqO (PySem.W.findIn K (.ref D) "__getattribute__") (some (some (.builtin "BaseException.__getattribute__"))) && He.eqO (PySem.W.findIn K (.ref D) "__getattr__") (some none) && decide (PySem.W.subIn K (.ref D) (.type "BaseException") = some true) && PySem.W.hasDictIn K D &&
  He.eqO (PySem.W.findIn K (.ref D) "__class__") (some (some (.builtin "object.__class__"))) && He.eqO (PySem.W.specialIn K (.builtin "object.__class__") "__get__") (some (some (.builtin "getset_descriptor.__get__"))) && decide (PySem.W.takesIn K (.builtin "object.__class__") = some true) && decide (PySem.W.mroIn K D (.type "object") = some true)
theorem excCB_ok {K : PySem.W.Frag} {D : Addr} (h : excCB K D = true) : ExcC K D := by
  unfold excCB at h
  obtain ⟨h, h8⟩ := and2 h
  obtain ⟨h, h7⟩ := and2 h
  obtain ⟨h, h6⟩ := and2 h
  obtain ⟨h, h5⟩ := and2 h
  obtain ⟨h, h4⟩ := and2 h
  obtain ⟨h, h3⟩ := and2 h
  obtain ⟨h1, h2⟩ := and2 h
  exact ⟨He.eqO_ok h1, He.eqO_ok h2, of_decide_eq_true h3, h4, He.eqO_ok h5, He.eqO_ok h6, of_decide_eq_true h7, of_decide_eq_true h8⟩
def gaC (K : PySem.W.Frag) (c : String) : Addr := He.ga K (Str.ofString c)
/-- the first statement of a class's body -/
def clsDef (s : Stmt) : Stmt := match s with
  | .ClassDef _ _ _ (d :: _) _ _ _ _ _ _ _ => d
  | _ => s
/-- an own class of errors with an own __init__ -/
structure IRow where
  c : String
  q : String
  st : Stmt
  N : List Str
  ps : List Str
def mkIR (r : IRow) : He.DefD := ⟨(Str.ofString r.c, some (Str.ofString "__init__")), Str.ofString "__init__", Str.ofString r.q, defArgs r.st, defBody r.st, defScope r.st, [], []⟩
def irB (r : IRow) : Bool := scB r.N r.ps (defScope r.st) && decide (r.ps.length = 3) && decide (r.N.length = 3) && iniB r.N (defScope r.st) (defBody r.st)
def BindsI (r : IRow) : Prop := ∀ (kV doc pm : Value) (an : Option Addr) (cdv ct : Value) (us : List Value), us.length = r.ps.length → bindArgs (PySem.W.fnOf (Str.ofString "__init__") (Str.ofString r.q) (defArgs r.st) (defBody r.st) (defScope r.st) .none kV doc pm an cdv ct) ⟨us, []⟩ = pure (r.ps.zip us)
def oexB1 (C : Addr) (mro : List Value) (sl : List (Option Value)) : Bool := match mro, sl with
  | .ref C2 :: bm, [_, _, _, _, some (.builtin n), _] => decide (C2 = C) && decide (n = "ValueError.__new__") && PySem.HandSPX.refsVE bm
  | _, _ => false
def oexB0 (C : Addr) (o : Option PySem.Obj) : Bool := match o with
  | some ⟨.type ty, _, .cls cd, sl⟩ => decide (ty = "type") && oexB1 C cd.mro sl.toList && !cd.hasDel && cd.hasDict
  | _ => false
def oexB (K : PySem.W.Frag) (C : Addr) : Bool := oexB0 C (K.lookup C) && He.eqO (PySem.W.findIn K (.ref C) "__setattr__") (some (some (.builtin "object.__setattr__"))) && decide (PySem.W.subIn K (.ref C) (.type "BaseException") = some true) && decide (PySem.W.typeIn K (.ref C) = some (.type "type")) && PySem.W.keepIn K (.ref C)
theorem oexB1_ok {C : Addr} {mro : List Value} {sl : List (Option Value)} (h : oexB1 C mro sl = true) : ∃ bm k0 k1 k2 k3 k5, mro = .ref C :: bm ∧ sl = [k0, k1, k2, k3, some (.builtin "ValueError.__new__"), k5] ∧ PySem.HandSPX.refsVE bm = true := by
  unfold oexB1 at h
  split at h
  · obtain ⟨h, h3⟩ := and2 h
    obtain ⟨h1, h2⟩ := and2 h
    rw [of_decide_eq_true h1, of_decide_eq_true h2]
    exact ⟨_, _, _, _, _, _, rfl, rfl, h3⟩
  · cases h
theorem oexB0_ok {C : Addr} {o : Option PySem.Obj} (h : oexB0 C o = true) : ∃ nm q N bs bm sn sub ab col dd k0 k1 k2 k3 k5, o = some (excClassObj nm q C N bs bm true sn sub ab col dd k0 k1 k2 k3 k5 "ValueError.__new__") ∧ PySem.HandSPX.refsVE bm = true := by
  unfold oexB0 at h
  split at h
  · rename_i ty dd cd sl
    obtain ⟨h, h5⟩ := and2 h
    obtain ⟨h, h4⟩ := and2 h
    obtain ⟨h1, h2⟩ := and2 h
    obtain ⟨bm, k0, k1, k2, k3, k5, e1, e2, h6⟩ := oexB1_ok h2
    have e3 : ty = "type" := of_decide_eq_true h1
    obtain ⟨nm, bs, mro, ns, qn, hdc, sn, sub, ab, col, del⟩ := cd
    obtain ⟨l⟩ := sl
    have e4 : del = false := by
      cases del with
      | false => rfl
      | true => cases h4
    have e5 : hdc = true := h5
    have e1 : mro = _ := e1
    have e2 : l = _ := e2
    rw [e1, e2, e3, e4, e5]
    exact ⟨nm, qn, ns, bs, bm, sn, sub, ab, col, dd, k0, k1, k2, k3, k5, rfl, h6⟩
  · cases h
theorem oexB_ok {K : PySem.W.Frag} {C : Addr} (h : oexB K C = true) : OexC K C := by
  unfold oexB at h
  obtain ⟨h, h5⟩ := and2 h
  obtain ⟨h, h4⟩ := and2 h
  obtain ⟨h, h3⟩ := and2 h
  obtain ⟨h1, h2⟩ := and2 h
  exact ⟨oexB0_ok h1, He.eqO_ok h2, of_decide_eq_true h3, of_decide_eq_true h4, h5⟩
def seB (K : PySem.W.Frag) (SE : Addr) : Bool := PySem.W.readsIn K SE (.type "type") && He.eqO (PySem.W.specialIn K (.ref SE) "__getattribute__") (some (some (.builtin "type.__getattribute__"))) && (match PySem.W.findCls K (.ref SE) (.type "type") (Str.ofString "__init__") with
  | some (.val (.builtin s)) => decide (s = "ValueError.__init__")
  | _ => false)
theorem seB_ok {K : PySem.W.Frag} {mg : Str → Option Value} {SE : Addr} (hm : mg (Str.ofString "StepError") = some (.ref SE)) (h : seB K SE = true) : SeF K mg SE := by
  unfold seB at h
  obtain ⟨h, h3⟩ := and2 h
  obtain ⟨h1, h2⟩ := and2 h
  refine ⟨hm, h1, He.eqO_ok h2, ?_⟩
  split at h3
  · rename_i s e
    have e2 : s = "ValueError.__init__" := of_decide_eq_true h3
    rw [e, e2]
  · cases h3
def inA (K : PySem.W.Frag) (c : String) : Addr := He.ma K (gaC K c) (Str.ofString "__init__")
def xiB (K : PySem.W.Frag) (c : String) : Bool := oexB K (gaC K c) && He.eqO (PySem.W.findIn K (.ref (gaC K c)) (Str.ofString "many")) (some none) && He.eqO (PySem.W.findIn K (.ref (gaC K c)) (Str.ofString "most")) (some none) &&
  He.eqO (PySem.W.findIn K (.ref (gaC K c)) (Str.ofString "__init__")) (some (some (.ref (inA K c)))) && decide (PySem.W.typeIn K (.ref (inA K c)) = some (.type "function")) && xfB K (gaC K c)
def exM (F FK : Facts) (tf : List He.Defn) (K : PySem.W.Frag) : Bool := noLst K && decide ((tf.map fun p => (He.cT K p).2).Nodup) &&
  (FK.cls.isEmpty || (F.xns ++ F.xis).all fun c => excCB K (gaC K c) && decide (PySem.W.kitOne K (.ref (gaC K c)) (.type "ValueError") = some true) && FK.cls.all fun T => decide (PySem.W.kitOne K (.ref (gaC K c)) (.ref (gaC K T)) = some (isxB c T))) &&
  (F.xis.all fun c => seB K (gaC K "StepError") && xiB K c) && (F.cns.all (tupC K) && (F.dcs.all (dcvB K) && smB K))
section
variable {w : World} {K : PySem.W.Frag} {h : Heap} {mg : Str → Option Value} {F FS FK : Facts} {G : Table} {fn : List He.DefD} {tf : List He.Defn} {T : List (Addr × Str)}
theorem row_def {r : Row} (c : He.SaysD (factsOf F ++ factsC F FK) fn K) (hr : mkD r ∈ fn) (hb : BindsP r) (hv : r.dfl.all dvB = true) : ∃ (oc : Value) (od : Option Addr) (osl : Array (Option Value)) (dV kV doc pm : Value) (an : Option Addr) (cdv ct : Value),
    K.lookup (He.ga K (Str.ofString r.f)) = some ⟨oc, od, .func (PySem.W.fnOf (Str.ofString r.f) (Str.ofString r.f) (defArgs r.st) (defBody r.st) (defScope r.st) dV kV doc pm an cdv ct), osl⟩ ∧ PySem.W.codeIn K cdv (Str.ofString r.f) = true ∧
    Binds K (PySem.W.fnOf (Str.ofString r.f) (Str.ofString r.f) (defArgs r.st) (defBody r.st) (defScope r.st) dV kV doc pm an cdv ct) r.ps [] ∧ (r.dfl ≠ [] → DflR K (PySem.W.fnOf (Str.ofString r.f) (Str.ofString r.f) (defArgs r.st) (defBody r.st) (defScope r.st) dV kV doc pm an cdv ct) r.ps r.dfl) ∧
    (∃ c, cdv = .ref c ∧ (He.cT K (Str.ofString r.f, none)).1 = c) := by
  obtain ⟨fd, FD⟩ := c.defs hr
  have FD0 := FD
  obtain ⟨oc, od, dV, kV, doc, pm, an, cdv, ct, osl, e, lk, hcd, hD, _⟩ := FD.ex
  obtain ⟨b1, b2⟩ := binds_row hb hv FD0
  subst e
  obtain ⟨cc, ec⟩ := He.codeIn_ref hcd
  exact ⟨oc, od, osl, dV, kV, doc, pm, an, cdv, ct, lk, hcd, b1, b2, cc, ec, He.codeOf_eq lk ec⟩
theorem modM_rows {rows : List Row} {irows : List IRow} (KX : K.In h) (hns : h.Ns mainGlobals mg) (c : He.SaysD (factsOf F ++ factsC F FK) fn K) (F' : Facts) (hfn : ∀ r ∈ rows, mkD r ∈ fn) (hdv : rows.all (fun r => r.dfl.all dvB) = true)
    (hf : F'.fns = rows.map (·.f)) (hB : rows.all (rowB F' G) = true) (hb : ∀ r ∈ rows, BindsP r) (hc : F.cns.all conF = true) (hsub : ∀ f ∈ F'.fns, f ∈ F.fns) (e1 : F'.cns = F.cns) (e2 : F'.frs = F.frs) (e3 : F'.xns = F.xns) (e4 : F'.xis = F.xis) (hir : ∀ r ∈ irows, mkIR r ∈ fn) (hib : irows.all irB = true) (hbi : ∀ r ∈ irows, BindsI r) (hxi : F.xis = irows.map (·.c)) (hamp : ∀ f, G ("&" ++ f) = none) (hex : exM F FK tf K = true) (e5 : F'.dcs = F.dcs) (hdt : ∀ p ∈ F.dcs, He.dicW K (He.ga K (Str.ofString p.1)) = some (He.keysIn w.params (p.2.map (·.1)))) (hcl : F'.cls = []) (htf : ∀ r ∈ rows, r.lam = true → (Str.ofString r.f, none) ∈ tf) :
    ModM w ⟨K, tabsOf (csOf K tf), mg, F.xns, F.xis, []⟩ F' G (csOf K tf) := by
  have fact : ∀ f ∈ factsOf F, f.ok K = true := fun f hf => c.facts (List.mem_append_left _ hf)
  have factX : ∀ f ∈ factsC F FK, f.ok K = true := fun f hf => c.facts (List.mem_append_right _ hf)
  refine ⟨fun f h1 => ?_, fun p hp => ?_, fun x hx => ?_, fun x hx => ?_, hcl, hamp, smB_ok (and2 (and2 (and2 hex).2).2).2, fun p hp => ?_, fun x hx => ?_⟩
  · have hm := He.glo_ok KX hns (fact (.glo (Str.ofString f)) (List.mem_append_left _ (List.mem_append_left _ (List.mem_map.mpr ⟨f, hsub f h1, rfl⟩))))
    rw [hf] at h1
    obtain ⟨r, hr, rfl⟩ := List.mem_map.mp h1
    obtain ⟨oc, od, osl, dV, kV, doc, pm, an, cdv, ct, lk, hcd, b1, b2, cc, ec, eC⟩ := row_def c (hfn r hr) (hb r hr) (List.all_eq_true.mp hdv r hr)
    have hrB := List.all_eq_true.mp hB r hr
    unfold rowB at hrB
    split at hrB
    · rename_i d hd
      obtain ⟨q, q5⟩ := and2 hrB
      obtain ⟨q, q4⟩ := and2 q
      obtain ⟨q, q3⟩ := and2 q
      obtain ⟨q1, q2⟩ := and2 q
      refine ⟨_, oc, od, osl, dV, kV, doc, pm, an, cdv, ct, Str.ofString r.f, defArgs r.st, defBody r.st, defScope r.st, r.N, r.ps, d, r.lam, lk, hcd, scB_ok q1, hd, of_decide_eq_true q2, of_decide_eq_true q3, q4, hm, b1, fun ds hds => ?_, fun hlam => ⟨cc, (He.cT K (Str.ofString r.f, none)).2, ec, ?_⟩⟩
      · have q6 := List.all_eq_true.mp q5 _ hds
        rw [Bool.or_eq_true] at q6
        rcases q6 with q6 | q6
        · simp at q6
        · obtain ⟨q7, q8⟩ := and2 q6
          have e5 := valsB_eq q7
          rw [show ds = r.dfl from e5]
          exact b2 (by intro z; rw [z] at q8; cases q8)
      · rw [← eC]
        exact List.mem_map.mpr ⟨_, htf r hr hlam, rfl⟩
    · cases hrB
  · rw [e1] at hp
    have hk := fact (conFa p) (List.mem_append_right _ (List.mem_append_left _ (List.mem_map.mpr ⟨p, hp, rfl⟩)))
    have hq := List.all_eq_true.mp hc p hp
    obtain ⟨x, v⟩ := p
    cases v <;> first | exact absurd hq Bool.false_ne_true | skip
    · obtain ⟨t, e⟩ := He.int_ok KX hns hk
      exact ⟨_, .int _, e, ⟨t, rfl⟩, fun _ _ => by simp only [RV]⟩
    · obtain ⟨t, e⟩ := He.str_ok KX hns hk
      exact ⟨_, .str _, e, ⟨t, rfl⟩, fun _ _ => by simp only [RV]⟩
    · rename_i l
      have hl : l.all dvB = true := hq
      have hT : He.tupB K (Str.ofString x) (l.map toDv) = true := List.all_eq_true.mp (and2 (and2 hex).2).1 _ hp
      refine ⟨_, .ref _, He.glo_ok KX hns hk, rfl, fun m H => ?_⟩
      simp only [RV]
      exact ⟨_, _, rfl, He.tupB_ok hT H, toDv_r hl K m H⟩
  · rw [e2] at hx
    exact He.free_ok KX hns (fact (.free (Str.ofString x)) (List.mem_append_left _ (List.mem_append_right _ (List.mem_map.mpr ⟨x, hx, rfl⟩))))
  · rw [e3] at hx
    have g1 := He.glo_ok KX hns (factX (.glo (Str.ofString x)) (List.mem_append_left _ (List.mem_append_left _ (List.mem_append_left _ (List.mem_append_left _ (List.mem_map.mpr ⟨x, List.mem_append_left _ hx, rfl⟩))))))
    have g2 := factX (.exc (Str.ofString x)) (List.mem_append_left _ (List.mem_append_left _ (List.mem_append_left _ (List.mem_append_right _ (List.mem_map.mpr ⟨x, hx, rfl⟩)))))
    obtain ⟨q1, g2⟩ := and2 g2
    obtain ⟨q2, g2⟩ := and2 g2
    obtain ⟨q3, q4⟩ := and2 g2
    exact ⟨hx, _, g1, q1, q2, of_decide_eq_true q3, of_decide_eq_true q4⟩
  · rw [e5] at hp
    exact dcvB_ok (List.all_eq_true.mp (and2 (and2 (and2 hex).2).2).1 _ hp) (He.glo_ok KX hns (fact (.glo (Str.ofString p.1)) (List.mem_append_right _ (List.mem_append_right _ (List.mem_map.mpr ⟨p, hp, rfl⟩))))) (hdt p hp)
  · rw [e4] at hx
    have g1 := He.glo_ok KX hns (factX (.glo (Str.ofString x)) (List.mem_append_left _ (List.mem_append_left _ (List.mem_append_left _ (List.mem_append_left _ (List.mem_map.mpr ⟨x, List.mem_append_right _ hx, rfl⟩))))))
    have g2 := He.glo_ok KX hns (factX (.glo (Str.ofString "StepError")) (List.mem_append_right _ (List.mem_map.mpr ⟨x, hx, rfl⟩)))
    obtain ⟨_, z⟩ := and2 (and2 hex).1
    obtain ⟨z1, z2⟩ := and2 (List.all_eq_true.mp z x hx)
    unfold xiB at z2
    obtain ⟨z2, z8⟩ := and2 z2
    obtain ⟨z2, z7⟩ := and2 z2
    obtain ⟨z2, z6⟩ := and2 z2
    obtain ⟨z2, z5⟩ := and2 z2
    obtain ⟨z3, z4⟩ := and2 z2
    refine ⟨hx, ?_⟩
    rw [hxi] at hx
    obtain ⟨r, hr, rfl⟩ := List.mem_map.mp hx
    obtain ⟨fd, FD⟩ := c.defs (hir r hr)
    have FD0 := FD
    obtain ⟨oc, od, dV, kV, doc, pm, an, cdv, ct, osl, e, lk, hcd, hD, _⟩ := FD.ex
    subst e
    have i0 := List.all_eq_true.mp hib r hr
    unfold irB at i0
    obtain ⟨i0, i4⟩ := and2 i0
    obtain ⟨i0, i3⟩ := and2 i0
    obtain ⟨i1, i2⟩ := and2 i0
    exact ⟨gaC K r.c, inA K r.c, _, r.ps, fun P w base => ⟨g1, oexB_ok z3, He.eqO_ok z4, He.eqO_ok z5, He.eqO_ok z6, of_decide_eq_true z7, iniOk lk hcd (scB_ok i1) (of_decide_eq_true i2) (of_decide_eq_true i3) (seB_ok g2 z1) i4, FD0.bindsN (hbi r hr)⟩⟩
/-- the rows of _law_said, _law_kind, _law_whole -/
def krB (FS FK FW : Facts) (sb : Ss) (dK dW : FDef) (rS rK rV : Row) : Bool :=
  decide (rS.f = "_law_said") && decide (rK.f = "_law_kind") && scB rS.N rS.ps (defScope rS.st) && decide (rS.N.length = 4) && saidB FS rS.N (defScope rS.st) sb (defBody rS.st) && (match rS.ps with | [a] => locB (defScope rS.st) a && okB a | _ => false) &&
  scB rK.N rK.ps (defScope rK.st) && decide (dK.np = rK.ps.length) && decide (dK.nv = rK.N.length) && chkSs FK rK.N (defScope rK.st) dK.body (defBody rK.st) && rS.dfl.isEmpty && rK.dfl.isEmpty &&
  (decide (rV.f = "_law_whole") && scB rV.N rV.ps (defScope rV.st) && decide (dW.np = rV.ps.length) && decide (dW.nv = rV.N.length) && chkSs FW rV.N (defScope rV.st) dW.body (defBody rV.st) && rV.dfl.isEmpty)
def wrB (r : Row) : Bool := decide (r.f = "_law_word") && scB r.N r.ps (defScope r.st) && r.dfl.isEmpty && (match r.ps with
  | [a] => decide (r.N = [a]) && decide (vWord (defBody r.st) = some (Str.ofString "_law_said", a)) && glB (defScope r.st) (Str.ofString "_law_said") && locB (defScope r.st) a && okB a
  | _ => false)
def fsOk (FS FK FW : Facts) : Prop := (FS.kind = 2 ∧ FS.fns = ["_law_kind", "_law_whole"] ∧ FS.xns = [] ∧ FS.cns = [] ∧ FS.cls = [] ∧ FS.frs = []) ∧ (FK.kind = 2 ∧ FK.fns = [] ∧ FK.xns = [] ∧ FK.cns = [] ∧ FK.fld = false) ∧ FW.kind = 2 ∧ FW.fns = [] ∧ FW.xns = [] ∧ FW.cns = [] ∧ FW.fld = false ∧ FW.cls = []
theorem modK_rows {rS rK rV : Row} {sb : Ss} {dK dW : FDef} {FW : Facts} (KX : K.In h) (hns : h.Ns mainGlobals mg) (c : He.SaysD (factsOf F ++ factsC F FK) fn K) (hS : mkD rS ∈ fn) (hK : mkD rK ∈ fn) (hV : mkD rV ∈ fn) (hB : krB FS FK FW sb dK dW rS rK rV = true) (bS : BindsP rS) (bK : BindsP rK) (bV : BindsP rV) (hfw : ∀ x ∈ FW.frs, x ∈ F.frs) (hne : FK.cls.isEmpty = false) (hex : exM F FK tf K = true) (hfs : fsOk FS FK FW) (cs : Ltab)
    (hW : F.wrd = true → ∃ rW, mkD rW ∈ fn ∧ wrB rW = true ∧ BindsP rW) :
    ModK ⟨K, tabsOf cs, mg, F.xns, F.xis, []⟩ FS FK FW sb dK dW F.wrd := by
  have factX : ∀ f ∈ factsC F FK, f.ok K = true := fun f hf => c.facts (List.mem_append_right _ hf)
  have fact : ∀ f ∈ factsOf F, f.ok K = true := fun f hf => c.facts (List.mem_append_left _ hf)
  have factY : ∀ f ∈ [He.Fa.glo (Str.ofString "StepError"), .glo (Str.ofString "_law_said"), .glo (Str.ofString "_law_kind"), .glo (Str.ofString "_law_whole")] ++ (F.xns ++ F.xis).map (fun c => .exm (Str.ofString c) (Str.ofString "StepError") true) ++ FK.cls.map (fun c => .glo (Str.ofString c)) ++ FK.cls.map (fun c => .keep (Str.ofString c)) ++ FK.frs.map (fun c => He.Fa.free (Str.ofString c)), f.ok K = true := fun f hf => factX f (by
    unfold factsC
    rw [hne]
    exact List.mem_append_left _ (List.mem_append_right _ hf))
  unfold krB at hB
  obtain ⟨hB, hB2⟩ := and2 hB
  obtain ⟨hB2, v6⟩ := and2 hB2
  obtain ⟨hB2, v5⟩ := and2 hB2
  obtain ⟨hB2, v4⟩ := and2 hB2
  obtain ⟨hB2, v3⟩ := and2 hB2
  obtain ⟨v1, v2⟩ := and2 hB2
  have fV : rV.f = "_law_whole" := of_decide_eq_true v1
  obtain ⟨hB, k12⟩ := and2 hB
  obtain ⟨hB, k11⟩ := and2 hB
  obtain ⟨hB, k10⟩ := and2 hB
  obtain ⟨hB, k9⟩ := and2 hB
  obtain ⟨hB, k8⟩ := and2 hB
  obtain ⟨hB, k7⟩ := and2 hB
  obtain ⟨hB, k6⟩ := and2 hB
  obtain ⟨hB, k5⟩ := and2 hB
  obtain ⟨hB, k4⟩ := and2 hB
  obtain ⟨hB, k3⟩ := and2 hB
  obtain ⟨k1, k2⟩ := and2 hB
  have fS : rS.f = "_law_said" := of_decide_eq_true k1
  have fK : rK.f = "_law_kind" := of_decide_eq_true k2
  have glo : ∀ x : String, He.Fa.glo (Str.ofString x) ∈ [He.Fa.glo (Str.ofString "StepError"), .glo (Str.ofString "_law_said"), .glo (Str.ofString "_law_kind"), .glo (Str.ofString "_law_whole")] → mg (Str.ofString x) = some (.ref (He.ga K (Str.ofString x))) := fun x hx =>
    He.glo_ok KX hns (factY _ (List.mem_append_left _ (List.mem_append_left _ (List.mem_append_left _ (List.mem_append_left _ hx)))))
  obtain ⟨hex, x4⟩ := and2 (and2 hex).1
  obtain ⟨hex, x3⟩ := and2 hex
  rw [hne, Bool.false_or] at x3
  have gloX : ∀ x ∈ F.xns ++ F.xis, mg (Str.ofString x) = some (.ref (gaC K x)) := fun x hx =>
    He.glo_ok KX hns (factX (.glo (Str.ofString x)) (List.mem_append_left _ (List.mem_append_left _ (List.mem_append_left _ (List.mem_append_left _ (List.mem_map.mpr ⟨x, hx, rfl⟩))))))
  refine ⟨?_, fun hwrd => ?_, ?_, ?_, ⟨He.ga K (Str.ofString "StepError"), glo _ (by simp), fun x hx => ?_, fun x hx => ?_, fun T hT => ?_⟩, fun x hx => ?_, fun x hx => ?_, hfs.1, hfs.2.1, hfs.2.2⟩
  · obtain ⟨oc, od, osl, dV, kV, doc, pm, an, cdv, ct, lk, hcd, b1, b2, cc, ec, eC⟩ := row_def c hS bS (by rw [List.isEmpty_iff.mp k11]; rfl)
    rw [fS] at lk hcd b1
    split at k6
    · rename_i a ea
      obtain ⟨k13, k14⟩ := and2 k6
      rw [ea] at b1 k3
      exact ⟨_, oc, od, osl, dV, kV, doc, pm, an, cdv, ct, _, _, _, rS.N, a, lk, hcd, scB_ok k3, of_decide_eq_true k4, k5, k13, k14, glo _ (by simp), b1⟩
    · cases k6
  · obtain ⟨rW, w1, w2, w3⟩ := hW hwrd
    unfold wrB at w2
    obtain ⟨w2, w4⟩ := and2 w2
    obtain ⟨w2, w5⟩ := and2 w2
    obtain ⟨w6, w7⟩ := and2 w2
    have fW : rW.f = "_law_word" := of_decide_eq_true w6
    obtain ⟨oc, od, osl, dV, kV, doc, pm, an, cdv, ct, lk, hcd, b1, b2, cc, ec, eC⟩ := row_def c w1 w3 (by rw [List.isEmpty_iff.mp w5]; rfl)
    rw [fW] at lk hcd b1
    have gw := He.glo_ok KX hns (factX (.glo (Str.ofString "_law_word")) (by
      unfold factsC
      rw [if_pos hwrd]
      exact List.mem_append_left _ (List.mem_append_left _ (List.mem_append_right _ List.mem_cons_self))))
    split at w4
    · rename_i a ea
      obtain ⟨w4, w8⟩ := and2 w4
      obtain ⟨w4, w9⟩ := and2 w4
      obtain ⟨w4, w10⟩ := and2 w4
      obtain ⟨w11, w12⟩ := and2 w4
      have eN : rW.N = [a] := of_decide_eq_true w11
      rw [ea] at b1 w7
      rw [eN] at w7
      exact ⟨_, oc, od, osl, dV, kV, doc, pm, an, cdv, ct, _, _, _, a, lk, hcd, scB_ok w7, of_decide_eq_true w12, w10, w9, w8, gw, b1⟩
    · cases w4
  · obtain ⟨oc, od, osl, dV, kV, doc, pm, an, cdv, ct, lk, hcd, b1, b2, cc, ec, eC⟩ := row_def c hK bK (by rw [List.isEmpty_iff.mp k12]; rfl)
    rw [fK] at lk hcd b1
    exact ⟨_, oc, od, osl, dV, kV, doc, pm, an, cdv, ct, _, _, _, _, rK.N, rK.ps, lk, hcd, scB_ok k7, of_decide_eq_true k8, of_decide_eq_true k9, k10, glo _ (by simp), b1⟩
  · obtain ⟨oc, od, osl, dV, kV, doc, pm, an, cdv, ct, lk, hcd, b1, b2, cc, ec, eC⟩ := row_def c hV bV (by rw [List.isEmpty_iff.mp v6]; rfl)
    rw [fV] at lk hcd b1
    exact ⟨_, oc, od, osl, dV, kV, doc, pm, an, cdv, ct, _, _, _, _, rV.N, rV.ps, lk, hcd, scB_ok v2, of_decide_eq_true v3, of_decide_eq_true v4, v5, glo _ (by simp), b1⟩
  · have hx : x ∈ F.xns ++ F.xis := List.mem_append.mpr hx
    have g3 := factY (.exm (Str.ofString x) (Str.ofString "StepError") true) (List.mem_append_left _ (List.mem_append_left _ (List.mem_append_left _ (List.mem_append_right _ (List.mem_map.mpr ⟨x, hx, rfl⟩)))))
    obtain ⟨y1, y3⟩ := and2 (List.all_eq_true.mp x3 x hx)
    obtain ⟨y1, y2⟩ := and2 y1
    refine ⟨_, gloX x hx, excCB_ok y1, of_decide_eq_true y2, of_decide_eq_true g3, fun T hT => ?_⟩
    have g4 := He.glo_ok KX hns (factY (.glo (Str.ofString T)) (List.mem_append_left _ (List.mem_append_left _ (List.mem_append_right _ (List.mem_map.mpr ⟨T, hT, rfl⟩)))))
    have g5 := factY (.keep (Str.ofString T)) (List.mem_append_left _ (List.mem_append_right _ (List.mem_map.mpr ⟨T, hT, rfl⟩)))
    exact ⟨_, g4, g5, of_decide_eq_true (List.all_eq_true.mp y3 T hT)⟩
  · obtain ⟨_, z2⟩ := and2 (List.all_eq_true.mp x4 x hx)
    unfold xiB at z2
    obtain ⟨z2, z8⟩ := and2 z2
    obtain ⟨z2, z7⟩ := and2 z2
    obtain ⟨z2, z6⟩ := and2 z2
    obtain ⟨z2, z5⟩ := and2 z2
    obtain ⟨z3, z4⟩ := and2 z2
    exact ⟨_, gloX x (List.mem_append_right _ hx), xfB_ok z8, He.eqO_ok z4, He.eqO_ok z5⟩
  · exact ⟨_, He.glo_ok KX hns (factY (.glo (Str.ofString T)) (List.mem_append_left _ (List.mem_append_left _ (List.mem_append_right _ (List.mem_map.mpr ⟨T, hT, rfl⟩)))))⟩
  · exact He.free_ok KX hns (factY (.free (Str.ofString x)) (List.mem_append_right _ (List.mem_map.mpr ⟨x, hx, rfl⟩)))
  · exact He.free_ok KX hns (fact (.free (Str.ofString x)) (List.mem_append_left _ (List.mem_append_right _ (List.mem_map.mpr ⟨x, hfw x hx, rfl⟩))))
end
/-! ### the hook: what the names reach, and the table of the interpreter's statics (a class's own attributes are read past it) -/
def asY (g : Addr → Option PySem.Obj) (n : Nat) : List Addr := He.asD g n ++ [cStatics, sysModules]
abbrev frY (g : Addr → Option PySem.Obj) (n : Nat) : PySem.W.Frag := He.frT g (asY g n)
def obsY (n : Nat) (fa : List He.Fa) (fn : List He.DefD) (ts : List He.Tab) (tf : List He.Defn) (ex : PySem.W.Frag → Bool) (g : Addr → Option PySem.Obj) : He.AlX := (He.obsT fa fn ts (frY g n), ex (frY g n) && He.tabsB g tf (frY g n))
theorem saysY {n : Nat} {fa : List He.Fa} {fn : List He.DefD} {ts : List He.Tab} {tf : List He.Defn} {ex : PySem.W.Frag → Bool} {w : World} {h : Heap} (e : obsY n fa fn ts tf ex h.get? = He.valX fn ts w) : He.SaysX fa fn ts tf ex w h (frY h.get? n) := by
  obtain ⟨e1, e2⟩ := Prod.mk.inj e
  obtain ⟨x1, x2⟩ := and2 (show (ex (frY h.get? n) && He.tabsB h.get? tf (frY h.get? n)) = true from e2)
  have one : ∀ p ∈ tf, PySem.W.codeHdIn (frY h.get? n) (He.cT (frY h.get? n) p).1 (He.cT (frY h.get? n) p).2 = true ∧ ∃ o, h.get? (He.cT (frY h.get? n) p).2 = some o ∧ He.emptyTab o = true := by
    intro p hp
    obtain ⟨y1, y2⟩ := and2 (List.all_eq_true.mp x2 p hp)
    refine ⟨y1, ?_⟩
    split at y2
    · rename_i o ho
      exact ⟨o, ho, y2⟩
    · cases y2
  refine ⟨e1, x1, fun p hp => (one p hp).1, fun p hp => ?_, fun p hp => ?_⟩
  · obtain ⟨_, o, o1, o2⟩ := one p hp
    exact He.frT_none o1 o2
  · obtain ⟨_, o, o1, o2⟩ := one p hp
    rw [o1, He.emptyTab_eq o2]
def hookY (n : Nat) (fa : List He.Fa) (fn : List He.DefD) (ts : List He.Tab) (tf : List He.Defn) (ex : PySem.W.Frag → Bool) : PySem.W.Hook where
  α := He.AlX
  obs s := obsY n fa fn ts tf ex s.heap.get?
  val w := He.valX fn ts w
  says w h := ∃ K : PySem.W.Frag, K.In h ∧ He.SaysX fa fn ts tf ex w h K
  of _ _ e := ⟨_, He.frT_in, saysY e⟩
  keeps _ _ _ := fun ⟨K, hK, c⟩ k => ⟨K, hK.keeps k, c.t, c.more, c.hd, c.out, fun p hp => k _ _ (c.empty p hp)⟩
theorem obsY_eq {n : Nat} {fa : List He.Fa} {fn : List He.DefD} {ts : List He.Tab} {tf : List He.Defn} {ex : PySem.W.Frag → Bool} {g : Addr → Option PySem.Obj} {s : Shared} (h : ∀ a, g a = s.heap.get? a) : obsY n fa fn ts tf ex g = (hookY n fa fn ts tf ex).obs s := by
  rw [show g = s.heap.get? from funext h]
  rfl
/-- all that the head is asked -/
theorem lawF_X {w : World} {K : PySem.W.Frag} {h : Heap} {mg : Str → Option Value} {F FS FK FW : Facts} {G : Table} {rows lrows kr : List Row} {irows : List IRow} {sb : Ss} {dK dW : FDef} (KX : K.In h) (hns : h.Ns mainGlobals mg) (c : He.SaysX (factsOf F ++ factsC F FK) ((rows ++ kr).map mkD ++ irows.map mkIR) (tsOf F) (tfOf rows) (exM F FK (tfOf rows)) w h K)
    (hf : F.fns = rows.map (·.f)) (hl : F.lows = lrows.map (·.f)) (hsub : ∀ r ∈ lrows, r ∈ rows) (hB : rows.all (rowB F G) = true) (hBl : lrows.all (rowB F.low G) = true) (hb : ∀ r ∈ rows, BindsP r) (hc : F.cns.all conF = true) (hdv : rows.all (fun r => r.dfl.all dvB) = true) (hcl : F.cls = []) (hib : irows.all irB = true) (hbi : ∀ r ∈ irows, BindsI r) (hxi : F.xis = irows.map (·.c))
    (hK : tfOf rows ≠ [] → ∃ rS rK rV ws, kr = rS :: rK :: ws ∧ rV ∈ rows ∧ krB FS FK FW sb dK dW rS rK rV = true ∧ BindsP rS ∧ BindsP rK ∧ (∀ x ∈ FW.frs, x ∈ F.frs) ∧ FK.cls.isEmpty = false ∧ fsOk FS FK FW ∧ PlainK sb dK dW ∧ (F.wrd = true → ∃ rW ∈ ws, wrB rW = true ∧ BindsP rW)) (hamp : ∀ f, G ("&" ++ f) = none) : LawF w K mg h F G FS FK FW sb dK dW := by
  have hm : ∀ r ∈ rows, mkD r ∈ (rows ++ kr).map mkD ++ irows.map mkIR := fun r hr => List.mem_append_left _ (List.mem_map.mpr ⟨r, List.mem_append_left _ hr, rfl⟩)
  have hmk : ∀ r ∈ kr, mkD r ∈ (rows ++ kr).map mkD ++ irows.map mkIR := fun r hr => List.mem_append_left _ (List.mem_map.mpr ⟨r, List.mem_append_right _ hr, rfl⟩)
  have hmi : ∀ r ∈ irows, mkIR r ∈ (rows ++ kr).map mkD ++ irows.map mkIR := fun r hr => List.mem_append_right _ (List.mem_map.mpr ⟨r, hr, rfl⟩)
  have htf : ∀ r ∈ rows, r.lam = true → (Str.ofString r.f, none) ∈ tfOf rows := fun r hr hlam => List.mem_map.mpr ⟨r, List.mem_filter.mpr ⟨hr, hlam⟩, rfl⟩
  have dvl : lrows.all (fun r => r.dfl.all dvB) = true := List.all_eq_true.mpr fun r hr => List.all_eq_true.mp hdv r (hsub r hr)
  obtain ⟨x1, x2⟩ := and2 (and2 (and2 (and2 c.more).1).1).1
  refine ⟨F.xns, F.xis, csOf K (tfOf rows), KX, x1, modM_rows KX hns c.t.d F hm hdv hf hB hb hc (fun _ h => h) rfl rfl rfl rfl hmi hib hbi hxi hamp c.more rfl (fun p hp => tsOf_ok c.t hp) hcl htf, modM_rows KX hns c.t.d F.low (fun r hr => hm r (hsub r hr)) dvl hl hBl (fun r hr => hb r (hsub r hr)) hc ?_ rfl rfl rfl rfl hmi hib hbi hxi hamp c.more rfl (fun p hp => tsOf_ok c.t hp) hcl (fun r hr => htf r (hsub r hr)), ?_, ?_, ?_, ?_, ?_⟩
  · intro f hf'
    have hf' : f ∈ F.lows := hf'
    rw [hl] at hf'
    obtain ⟨r, hr, rfl⟩ := List.mem_map.mp hf'
    rw [hf]
    exact List.mem_map.mpr ⟨r, hsub r hr, rfl⟩
  · intro p hp
    obtain ⟨q, hq, rfl⟩ := List.mem_map.mp hp
    exact c.empty q hq
  · intro p hp
    obtain ⟨q, hq, rfl⟩ := List.mem_map.mp hp
    exact c.out q hq
  · intro p hp
    obtain ⟨q, hq, rfl⟩ := List.mem_map.mp hp
    exact c.hd q hq
  · unfold csOf
    rw [List.map_map]
    exact of_decide_eq_true x2
  · intro hne
    obtain ⟨rS, rK, rV, ws, rfl, kv, k1, k2, k3, kw, k4, k5, k6, k7⟩ := hK fun z => hne (by unfold csOf; rw [z]; rfl)
    exact ⟨modK_rows KX hns c.t.d (hmk rS (by simp)) (hmk rK (by simp)) (hm rV kv) k1 k2 k3 (hb rV kv) kw k4 c.more k5 _ (fun hw => let ⟨rW, h1, h2, h3⟩ := k7 hw; ⟨rW, hmk rW (by simp [h1]), h2, h3⟩), k6⟩
end Mp

set_option autoImplicit false
set_option maxHeartbeats 0
namespace Mp
open PySem PySem.Spec PyProof.Rows L2
def F_is_whole : FDef := ⟨1, 1, (.cons (.ret (.and (.cons (.isi (.var 0) "int") (.cons (.not (.isi (.var 0) "bool")) .nil)))) .nil)⟩
def F_is_sign : FDef := ⟨1, 1, (.cons (.ret (.and (.cons (.call "is_whole" (.cons (.var 0) .nil)) (.cons (.cmp .eq (.bi .abs (.cons (.var 0) .nil)) (.con (.int 1))) .nil)))) .nil)⟩
def F_a_row : FDef := ⟨1, 2, (.cons (.ret (.and (.cons (.isi (.var 0) "tuple") (.cons (.cmp .le (.bi .len (.cons (.var 0) .nil)) (.glo "MOST_SIGNS" (.int 100))) (.cons (.bi .all (.cons (.lc (.call "is_sign" (.cons (.var 1) .nil)) (.nm 1) (.val (.var 0)) .no [1]) .nil)) .nil))))) .nil)⟩
def F_need_row : FDef := ⟨1, 1, (.cons (.ite (.not (.call "a_row" (.cons (.var 0) .nil))) (.cons (.raise "NoRow" .nil) .nil) .nil) .nil)⟩
def F_are_marks : FDef := ⟨1, 2, (.cons (.ite (.or (.cons (.not (.isi (.var 0) "tuple")) (.cons (.cmp .gt (.bi .len (.cons (.var 0) .nil)) (.glo "MOST_MARKS" (.int 40))) .nil))) (.cons (.ret (.con (.bl false))) .nil) .nil) (.cons (.ret (.bi .all (.cons (.lc (.or (.cons (.cmp .is (.var 1) (.con .non)) (.cons (.call "is_sign" (.cons (.var 1) .nil)) .nil))) (.nm 1) (.val (.var 0)) .no [1]) .nil))) .nil))⟩
def F_need_marks : FDef := ⟨1, 1, (.cons (.ite (.not (.call "are_marks" (.cons (.var 0) .nil))) (.cons (.raise "NoMarks" .nil) .nil) .nil) .nil)⟩
def F_sign_text : FDef := ⟨1, 1, (.cons (.ite (.cmp .is (.var 0) (.con .non)) (.cons (.ret (.con (.str (Str.ofString "?")))) .nil) .nil) (.cons (.ret (.ite (.cmp .gt (.var 0) (.con (.int 0))) (.con (.str (Str.ofString "+"))) (.con (.str (Str.ofString "-"))))) .nil))⟩
def F_signs_text : FDef := ⟨1, 2, (.cons (.ret (.or (.cons (.jn (Str.ofString "") (.lc (.call "sign_text" (.cons (.var 1) .nil)) (.nm 1) (.val (.var 0)) .no [1])) (.cons (.con (.str (Str.ofString "none"))) .nil)))) .nil)⟩
def F_row_text : FDef := ⟨1, 1, (.cons (.exp (.call "need_row" (.cons (.var 0) .nil))) (.cons (.ret (.call "signs_text" (.cons (.var 0) .nil))) .nil))⟩
def F_marks_text : FDef := ⟨1, 1, (.cons (.exp (.call "need_marks" (.cons (.var 0) .nil))) (.cons (.ret (.call "signs_text" (.cons (.var 0) .nil))) .nil))⟩
def F_signs_in : FDef := ⟨3, 4, (.cons (.ite (.cmp .eq (.var 0) (.con (.str (Str.ofString "none")))) (.cons (.ret (.tup .nil)) .nil) .nil) (.cons (.ite (.or (.cons (.not (.isi (.var 0) "str")) (.cons (.not (.cmp2 .le .le (.con (.int 1)) (.bi .len (.cons (.var 0) .nil)) (.var 2))) (.cons (.not (.bi .all (.cons (.lc (.dim (.var 3) (.var 1)) (.nm 3) (.val (.var 0)) .no [3]) .nil))) .nil)))) (.cons (.raise "NoText" .nil) .nil) .nil) (.cons (.ret (.bi .tuple (.cons (.lc (.dix (.var 1) (.var 3)) (.nm 3) (.val (.var 0)) .no [3]) .nil))) .nil)))⟩
def F_row_read : FDef := ⟨1, 1, (.cons (.ret (.call "signs_in" (.cons (.var 0) (.cons (.dcg "SIGNS" [(Str.ofString "+", (.int 1)), (Str.ofString "-", (.int (-1)))]) (.cons (.glo "MOST_SIGNS" (.int 100)) .nil))))) .nil)⟩
def F_marks_read : FDef := ⟨1, 1, (.cons (.ret (.call "signs_in" (.cons (.var 0) (.cons (.dcg "MARKS" [(Str.ofString "+", (.int 1)), (Str.ofString "-", (.int (-1))), (Str.ofString "?", .non)]) (.cons (.glo "MOST_MARKS" (.int 40)) .nil))))) .nil)⟩
def F__law_cell : FDef := ⟨2, 2, (.cons (.ite (.cmp .lt (.var 1) (.bi .len (.cons (.var 0) .nil))) (.cons (.ret (.ix (.var 0) (.var 1))) .nil) .nil) (.cons (.ret (.con (.int 0))) .nil))⟩
def F__law_pen : FDef := ⟨1, 2, (.cons (.asg (.nm 1) (.bi .max (.cons (.var 0) (.cons (.bin .sub (.con (.int 0)) (.var 0)) .nil)))) (.cons (.ret (.lst (.cons (.var 1) (.cons (.bi .int (.cons (.cmp .ge (.var 1) (.bin .pow (.con (.int 10)) (.con (.int 18)))) .nil)) .nil)))) .nil))⟩
def F__law_draw : FDef := ⟨2, 5, (.cons (.ite (.cmp .eq (.ix (.var 0) (.con (.int 1))) (.con (.int 1))) (.cons (.asg (.tup [2, 3]) (.bi .divmod (.cons (.ix (.var 0) (.con (.int 0))) (.cons (.var 1) .nil)))) (.cons (.put (.var 0) (.con (.int 0)) (.var 2)) (.cons (.ret (.var 3)) .nil))) .nil) (.cons (.asg (.nm 4) (.bin .mod (.bin .mul (.bin .add (.bin .mod (.ix (.var 0) (.con (.int 0))) (.con (.int 2147483647))) (.con (.int 40503))) (.con (.int 69621))) (.con (.int 2147483629)))) (.cons (.asg (.nm 4) (.bin .mod (.bin .add (.bin .mul (.var 4) (.var 4)) (.con (.int 7817))) (.con (.int 2147483587)))) (.cons (.put (.var 0) (.con (.int 0)) (.bin .mod (.bin .add (.bin .mul (.var 4) (.con (.int 48271))) (.con (.int 11))) (.con (.int 2147483629)))) (.cons (.ret (.bin .mod (.bin .fdiv (.ix (.var 0) (.con (.int 0))) (.con (.int 32))) (.var 1))) .nil)))))⟩
def F__law_whole : FDef := ⟨1, 1, (.cons (.ret (.and (.cons (.isi (.var 0) "int") (.cons (.not (.isi (.var 0) "bool")) .nil)))) .nil)⟩
def F__law_same : FDef := ⟨2, 2, (.cons (.ite (.isi (.var 1) "dict") (.cons (.ret (.and (.cons (.isi (.var 0) "dict") (.cons (.cmp .eq (.bi .repr (.cons (.bi .sorted (.cons .bad .nil)) .nil)) (.bi .repr (.cons (.bi .sorted (.cons .bad .nil)) .nil))) .nil)))) .nil) .nil) (.cons (.ret (.cmp .eq (.bi .repr (.cons (.var 0) .nil)) (.bi .repr (.cons (.var 1) .nil)))) .nil))⟩
def F__law_size : FDef := ⟨2, 5, (.cons (.par [2, 3, 4] (.cons (.call "_law_draw" (.cons (.var 0) (.cons (.con (.int 6)) .nil))) (.cons (.call "_law_draw" (.cons (.var 0) (.cons (.con (.int 24)) .nil))) (.cons (.bin .sub (.var 1) (.call "_law_draw" (.cons (.var 0) (.cons (.con (.int 4)) .nil)))) .nil)))) (.cons (.ret (.bi .min (.cons (.var 1) (.cons (.ix (.lst (.cons (.var 2) (.cons (.var 2) (.cons (.var 3) (.cons (.var 3) (.cons (.var 4) .nil)))))) (.call "_law_draw" (.cons (.var 0) (.cons (.con (.int 5)) .nil)))) .nil)))) .nil))⟩
def F__law_row : FDef := ⟨2, 7, (.cons (.asg (.tup [2, 3, 4]) (.tup (.cons (.call "_law_size" (.cons (.var 0) (.cons (.var 1) .nil))) (.cons (.call "_law_draw" (.cons (.var 0) (.cons (.con (.int 6)) .nil))) (.cons (.bin .add (.con (.int 1)) (.call "_law_draw" (.cons (.var 0) (.cons (.con (.int 5)) .nil)))) .nil))))) (.cons (.ite (.cmp .eq (.var 3) (.con (.int 0))) (.cons (.ret (.bin .mul (.tup (.cons (.bin .sub (.con (.int 1)) (.bin .mul (.con (.int 2)) (.call "_law_draw" (.cons (.var 0) (.cons (.con (.int 2)) .nil))))) .nil)) (.var 2))) .nil) .nil) (.cons (.ite (.cmp .eq (.var 3) (.con (.int 1))) (.cons (.ret (.bi .tuple (.cons (.lc (.bin .sub (.con (.int 1)) (.bin .mul (.con (.int 2)) (.bin .mod (.bin .fdiv (.var 6) (.var 4)) (.con (.int 2))))) (.nm 6) (.rng1 (.var 2)) .no [6]) .nil))) .nil) .nil) (.cons (.asg (.nm 5) (.ix (.lst (.cons (.con (.int 2)) (.cons (.con (.int 2)) (.cons (.con (.int 3)) (.cons (.con (.int 4)) .nil))))) (.bin .sub (.var 3) (.con (.int 2))))) (.cons (.ret (.bi .tuple (.cons (.lc (.bin .sub (.con (.int 1)) (.bin .mul (.con (.int 2)) (.bi .int (.cons (.cmp .eq (.call "_law_draw" (.cons (.var 0) (.cons (.var 5) .nil))) (.con (.int 0))) .nil)))) (.nm 6) (.rng1 (.var 2)) .no [6]) .nil))) .nil)))))⟩
def B__law_no_row_4 : Ss := (.cons (.ret (.ix (.var 4) (.call "_law_draw" (.cons (.var 0) (.cons (.con (.int 9)) .nil))))) .nil)
def B__law_no_row_3 : Ss := (.cons (.asg (.nm 4) (.lst (.cons (.con .non) (.cons (.con (.str (Str.ofString "none"))) (.cons (.con (.int 0)) (.cons (.bi .list (.cons (.var 1) .nil)) (.cons (.bin .add (.bin .add (.sl (.var 1) .no (.so (.var 2)) .no) (.tup (.cons (.var 3) .nil))) (.sl (.var 1) (.so (.bin .add (.var 2) (.con (.int 1)))) .no .no)) (.cons (.bin .mul (.tup (.cons (.con (.int 1)) .nil)) (.con (.int 101))) (.cons .dct (.cons (.tup (.cons (.tup (.cons (.con (.int 1)) (.cons (.neg (.con (.int 1))) .nil))) .nil)) (.cons (.con (.bl true)) .nil))))))))))) B__law_no_row_4)
def B__law_no_row_2 : Ss := (.cons (.asg (.nm 3) (.ix (.lst (.cons (.con (.int 0)) (.cons (.con (.int 2)) (.cons (.neg (.con (.int 2))) (.cons (.con (.bl true)) (.cons (.con .non) (.cons (.con (.str (Str.ofString "+"))) (.cons (.tup (.cons (.con (.int 1)) .nil)) (.cons (.bin .pow (.con (.int 10)) (.con (.int 30))) (.cons (.con (.bl false)) .nil)))))))))) (.call "_law_draw" (.cons (.var 0) (.cons (.con (.int 9)) .nil))))) B__law_no_row_3)
def F__law_no_row : FDef := ⟨2, 5, (.cons (.asg (.nm 2) (.call "_law_draw" (.cons (.var 0) (.cons (.bin .add (.bi .len (.cons (.var 1) .nil)) (.con (.int 1))) .nil)))) B__law_no_row_2)⟩
def F__law_signs_text : FDef := ⟨1, 2, (.cons (.ret (.or (.cons (.jn (Str.ofString "") (.lc (.ite (.cmp .is (.var 1) (.con .non)) (.con (.str (Str.ofString "?"))) (.ix (.con (.str (Str.ofString "-+"))) (.bin .fdiv (.bin .add (.var 1) (.con (.int 1))) (.con (.int 2))))) (.nm 1) (.val (.var 0)) .no [1])) (.cons (.con (.str (Str.ofString "none"))) .nil)))) .nil)⟩
def F__law_marks : FDef := ⟨1, 3, (.cons (.asg (.nm 1) (.call "_law_size" (.cons (.var 0) (.cons (.con (.int 40)) .nil)))) (.cons (.ret (.bi .tuple (.cons (.lc (.ix (.lst (.cons (.con (.int 1)) (.cons (.neg (.con (.int 1))) (.cons (.con .non) (.cons (.con .non) .nil))))) (.call "_law_draw" (.cons (.var 0) (.cons (.con (.int 4)) .nil)))) (.nm 2) (.rng1 (.var 1)) .no [2]) .nil))) .nil))⟩
def B_law_7 : Ss := (.cons (.ite (.not (.call "_law_same" (.cons (.call "row_read" (.cons (.call "_law_signs_text" (.cons (.var 5) .nil)) .nil)) (.cons (.var 5) .nil)))) (.cons (.ret (.con (.bl false))) .nil) .nil) .nil)
def B_law_12 : Ss := (.cons (.ite (.not (.call "_law_same" (.cons (.call "marks_read" (.cons (.call "_law_signs_text" (.cons (.var 5) .nil)) .nil)) (.cons (.var 5) .nil)))) (.cons (.ret (.con (.bl false))) .nil) .nil) .nil)
def B_law_20 : Ss := (.cons (.ite (.cmp .ne (.word (.call "marks_text" (.cons (.var 10) .nil))) (.con (.str (Str.ofString "marks")))) (.cons (.ret (.con (.bl false))) .nil) .nil) .nil)
def B_law_18 : Ss := (.cons (.ite (.or (.cons (.cmp .ne (.word (.call "row_text" (.cons (.var 6) .nil))) (.con (.str (Str.ofString "row")))) (.cons (.cmp .ne (.call "marks_text" (.cons (.tup (.cons (.con (.int 1)) (.cons (.con .non) .nil))) .nil)) (.con (.str (Str.ofString "+?")))) .nil))) (.cons (.ret (.con (.bl false))) .nil) .nil) B_law_20)
def B_law_17 : Ss := (.cons (.asg (.nm 10) (.ix (.var 9) (.call "_law_draw" (.cons (.var 2) (.cons (.con (.int 9)) .nil))))) B_law_18)
def B_law_16 : Ss := (.cons (.asg (.nm 9) (.lst (.cons (.con .non) (.cons (.bi .list (.cons (.var 4) .nil)) (.cons (.bin .add (.bin .add (.sl (.var 4) .no (.so (.var 7)) .no) (.tup (.cons (.var 8) .nil))) (.sl (.var 4) (.so (.bin .add (.var 7) (.con (.int 1)))) .no .no)) (.cons (.bin .mul (.tup (.cons (.con .non) .nil)) (.con (.int 41))) (.cons (.con (.str (Str.ofString "?"))) (.cons (.con (.int 0)) (.cons .dct (.cons (.tup (.cons (.var 4) .nil)) (.cons (.con (.str (Str.ofString "none"))) .nil))))))))))) B_law_17)
def B_law_15 : Ss := (.cons (.asg (.nm 8) (.ix (.lst (.cons (.con (.int 0)) (.cons (.con (.int 2)) (.cons (.con (.bl true)) (.cons (.con (.str (Str.ofString "?"))) (.cons (.tup .nil) (.cons (.tup (.cons (.con .non) .nil)) (.cons (.bin .pow (.con (.int 10)) (.con (.int 30))) (.cons (.con (.bl false)) .nil))))))))) (.call "_law_draw" (.cons (.var 2) (.cons (.con (.int 8)) .nil))))) B_law_16)
def B_law_14 : Ss := (.cons (.asg (.tup [6, 7]) (.tup (.cons (.call "_law_no_row" (.cons (.var 2) (.cons (.var 3) .nil))) (.cons (.call "_law_draw" (.cons (.var 2) (.cons (.bin .add (.bi .len (.cons (.var 4) .nil)) (.con (.int 1))) .nil))) .nil)))) B_law_15)
def B_law_9 : Ss := (.cons (.for (.nm 5) (.val (.lst (.cons (.var 4) (.cons (.bin .mul (.tup (.cons (.con .non) .nil)) (.con (.int 40))) (.cons (.tup .nil) (.cons (.sl (.var 3) .no (.so (.con (.int 40))) .no) .nil)))))) (.cons (.ite (.not (.call "_law_same" (.cons (.call "marks_text" (.cons (.var 5) .nil)) (.cons (.call "_law_signs_text" (.cons (.var 5) .nil)) .nil)))) (.cons (.ret (.con (.bl false))) .nil) .nil) B_law_12)) B_law_14)
def B_law_4 : Ss := (.cons (.for (.nm 5) (.val (.lst (.cons (.var 3) (.cons (.tup .nil) (.cons (.bin .mul (.tup (.cons (.con (.int 1)) .nil)) (.con (.int 100))) (.cons (.tup (.cons (.neg (.con (.int 1))) .nil)) .nil)))))) (.cons (.ite (.not (.call "_law_same" (.cons (.call "row_text" (.cons (.var 5) .nil)) (.cons (.call "_law_signs_text" (.cons (.var 5) .nil)) .nil)))) (.cons (.ret (.con (.bl false))) .nil) .nil) B_law_7)) B_law_9)
def B_law_3 : Ss := (.cons (.par [3, 4] (.cons (.call "_law_row" (.cons (.var 2) (.cons (.con (.int 100)) .nil))) (.cons (.call "_law_marks" (.cons (.var 2) .nil)) .nil))) B_law_4)
def B_law_22 : Ss := (.cons (.ret (.con (.bl true))) .nil)
def F_law : FDef := ⟨1, 11, (.cons (.for (.nm 1) (.val (.bin .add (.lst (.cons (.call "_law_cell" (.cons (.var 0) (.cons (.con (.int 0)) .nil))) .nil)) (.sl (.var 0) (.so (.con (.int 1))) (.so (.con (.int 4))) .no))) (.cons (.asg (.nm 2) (.call "_law_pen" (.cons (.var 1) .nil))) B_law_3)) B_law_22)⟩
abbrev GL : List (String × FDef) := [("is_whole", F_is_whole), ("is_sign", F_is_sign), ("a_row", F_a_row), ("need_row", F_need_row), ("are_marks", F_are_marks), ("need_marks", F_need_marks), ("sign_text", F_sign_text), ("signs_text", F_signs_text), ("row_text", F_row_text), ("marks_text", F_marks_text), ("signs_in", F_signs_in), ("row_read", F_row_read), ("marks_read", F_marks_read), ("_law_cell", F__law_cell), ("_law_pen", F__law_pen), ("_law_draw", F__law_draw), ("_law_whole", F__law_whole), ("_law_same", F__law_same), ("_law_size", F__law_size), ("_law_row", F__law_row), ("_law_no_row", F__law_no_row), ("_law_signs_text", F__law_signs_text), ("_law_marks", F__law_marks), ("law", F_law)]
def G0 : Table := fun f => GL.lookup f
theorem G0_amp : ∀ f, G0 ("&" ++ f) = none := lookup_amp (by decide)
abbrev fvL : List String := []
def G : Table := G0
def D_kind : FDef := ⟨1, 3, (.cons (.asg (.nm 1) (.lst (.cons (.isx (.var 0) "NoRow") (.cons (.isx (.var 0) "NoStep") (.cons (.isx (.var 0) "NoSteps") (.cons (.isx (.var 0) "NoBound") .nil)))))) (.cons (.asg (.nm 1) (.bin .add (.var 1) (.lst (.cons (.isx (.var 0) "NoNumber") (.cons (.isx (.var 0) "NotKept") (.cons (.isx (.var 0) "NoMarks") (.cons (.isx (.var 0) "NoSigns") .nil))))))) (.cons (.asg (.nm 1) (.bin .add (.var 1) (.lst (.cons (.isx (.var 0) "NotSo") (.cons (.isx (.var 0) "NoPattern") (.cons (.isx (.var 0) "NoTail") (.cons (.isx (.var 0) "NotEven") .nil))))))) (.cons (.asg (.nm 1) (.bin .add (.var 1) (.lst (.cons (.isx (.var 0) "NoRun") (.cons (.isx (.var 0) "NoBoard") (.cons (.isx (.var 0) "NoHues") (.cons (.isx (.var 0) "NoText") .nil))))))) (.cons (.asg (.nm 1) (.bin .add (.var 1) (.lst (.cons (.isx (.var 0) "NoLine") (.cons (.isx (.var 0) "NoDeed") (.cons (.isx (.var 0) "TooMany") (.cons (.isx (.var 0) "TooFew") .nil))))))) (.cons (.ite (.or (.cons (.not (.isx (.var 0) "ValueError")) (.cons (.cmp .ne (.met .count (.var 1) (.cons (.con (.bl true)) .nil)) (.con (.int 1))) .nil))) (.cons (.ret (.con (.str (Str.ofString "other")))) .nil) .nil) (.cons (.asg (.nm 2) (.lst (.cons (.con (.str (Str.ofString "row"))) (.cons (.con (.str (Str.ofString "step"))) (.cons (.con (.str (Str.ofString "steps"))) (.cons (.con (.str (Str.ofString "bound"))) (.cons (.con (.str (Str.ofString "number"))) (.cons (.con (.str (Str.ofString "kept"))) (.cons (.con (.str (Str.ofString "marks"))) (.cons (.con (.str (Str.ofString "signs"))) (.cons (.con (.str (Str.ofString "so"))) (.cons (.con (.str (Str.ofString "pattern"))) (.cons (.con (.str (Str.ofString "tail"))) (.cons (.con (.str (Str.ofString "even"))) .nil)))))))))))))) (.cons (.asg (.nm 2) (.bin .add (.var 2) (.lst (.cons (.con (.str (Str.ofString "run"))) (.cons (.con (.str (Str.ofString "board"))) (.cons (.con (.str (Str.ofString "hues"))) (.cons (.con (.str (Str.ofString "text"))) (.cons (.con (.str (Str.ofString "line"))) (.cons (.con (.str (Str.ofString "deed"))) (.cons (.con (.str (Str.ofString "many"))) (.cons (.con (.str (Str.ofString "few"))) .nil))))))))))) (.cons (.ret (.ix (.var 2) (.met .index (.var 1) (.cons (.con (.bl true)) .nil)))) .nil)))))))))⟩
def B_said : Ss := (.cons (.asg (.nm 3) (.call "_law_kind" (.cons (.var 2) .nil))) (.cons (.ite (.cmp .isin (.var 3) (.tup (.cons (.con (.str (Str.ofString "many"))) (.cons (.con (.str (Str.ofString "few"))) .nil)))) (.cons (.ret (.tup (.cons (.var 3) (.cons (.ite (.call "_law_whole" (.cons (.fld 2 "many") .nil)) (.fld 2 "many") (.con .non)) (.cons (.ite (.call "_law_whole" (.cons (.fld 2 "most") .nil)) (.fld 2 "most") (.con .non)) .nil))))) .nil) .nil) (.cons (.ret (.tup (.cons (.var 3) .nil))) .nil)))
abbrev D_whole : FDef := F__law_whole
theorem G_is_whole : G "is_whole" = some F_is_whole := by rfl
theorem G_is_sign : G "is_sign" = some F_is_sign := by rfl
theorem G_a_row : G "a_row" = some F_a_row := by rfl
theorem G_need_row : G "need_row" = some F_need_row := by rfl
theorem G_are_marks : G "are_marks" = some F_are_marks := by rfl
theorem G_need_marks : G "need_marks" = some F_need_marks := by rfl
theorem G_sign_text : G "sign_text" = some F_sign_text := by rfl
theorem G_signs_text : G "signs_text" = some F_signs_text := by rfl
theorem G_row_text : G "row_text" = some F_row_text := by rfl
theorem G_marks_text : G "marks_text" = some F_marks_text := by rfl
theorem G_signs_in : G "signs_in" = some F_signs_in := by rfl
theorem G_row_read : G "row_read" = some F_row_read := by rfl
theorem G_marks_read : G "marks_read" = some F_marks_read := by rfl
theorem G__law_cell : G "_law_cell" = some F__law_cell := by rfl
theorem G__law_pen : G "_law_pen" = some F__law_pen := by rfl
theorem G__law_draw : G "_law_draw" = some F__law_draw := by rfl
theorem G__law_whole : G "_law_whole" = some F__law_whole := by rfl
theorem G__law_same : G "_law_same" = some F__law_same := by rfl
theorem G__law_size : G "_law_size" = some F__law_size := by rfl
theorem G__law_row : G "_law_row" = some F__law_row := by rfl
theorem G__law_no_row : G "_law_no_row" = some F__law_no_row := by rfl
theorem G__law_signs_text : G "_law_signs_text" = some F__law_signs_text := by rfl
theorem G__law_marks : G "_law_marks" = some F__law_marks := by rfl
theorem G_law : G "law" = some F_law := by rfl
/-! base: rules of loops, stores. -/
theorem isNon_non : isNon .non = true := rfl
theorem isNon_int {i : Int} : isNon (.int i) = false := rfl
theorem isNon_bl {i : Bool} : isNon (.bl i) = false := rfl
theorem isNon_tup {l : List Val} : isNon (.tup l) = false := rfl
theorem isNon_str {x : Str} : isNon (.str x) = false := rfl
theorem isNon_obj {n : Nat} : isNon (.obj n) = false := rfl
theorem forL_rule {g : Sto → Prop} {step : Val → Env → Sto → (Env → Sto → Prop) → Prop} {K : Env → Sto → Prop} (I : List Val → Env → Sto → Prop)
    (hs : ∀ v l r S (K' : Env → Sto → Prop), I (v :: l) r S → (∀ r' S', I l r' S' → K' r' S') → g S ∧ step v r S K') (he : ∀ r S, I [] r S → g S ∧ K r S) : ∀ l r S, I l r S → forL g step K l r S
  | [], r, S, h => he r S h
  | v :: l, r, S, h => hs v l r S _ h fun r' S' h' => forL_rule I hs he l r' S' h'
theorem lcL_rule {g : Sto → Prop} {step : Val → Sto → (Option Val → Sto → Prop) → Prop} {K : List Val → Sto → Prop} (I : List Val → List Val → Sto → Prop)
    (hs : ∀ v l acc S (K' : Option Val → Sto → Prop), I (v :: l) acc S → (∀ o S', I l (match o with | some y => acc ++ [y] | none => acc) S' → K' o S') → g S ∧ step v S K') (he : ∀ acc S, I [] acc S → g S ∧ K acc S) :
    ∀ l acc S, I l acc S → lcL g step K l acc S
  | [], acc, S, h => he acc S h
  | v :: l, acc, S, h => hs v l acc S _ h fun o S' h' => lcL_rule I hs he l _ S' h'
/-- a comprehension whose turns leave the store -/
theorem lcL_map {g : Sto → Prop} {step : Val → Sto → (Option Val → Sto → Prop) → Prop} {K : List Val → Sto → Prop} {S : Sto} (f : Val → Option Val) (hg : g S) : ∀ (l acc : List Val),
    (∀ v ∈ l, ∀ K' : Option Val → Sto → Prop, K' (f v) S → step v S K') → K (acc ++ l.filterMap f) S → lcL g step K l acc S
  | [], acc, _, h => ⟨hg, by simpa using h⟩
  | v :: l, acc, hs, h => ⟨hg, hs v List.mem_cons_self _ (lcL_map f hg l _ (fun u hu => hs u (List.mem_cons_of_mem _ hu)) (by
      rw [List.filterMap_cons] at h
      cases q : f v with
      | none => rw [q] at h; exact h
      | some y => rw [q] at h; simpa using h))⟩
theorem whl_rule {c : Env → Sto → (Bool → Sto → Prop) → Prop} {b : Env → Sto → (Env → Sto → Prop) → Prop} {K : Env → Sto → Prop} (I : Nat → Env → Sto → Prop)
    (hs : ∀ n r S (K' : Env → Sto → Prop), I n r S → (∀ m r' S', m < n → I m r' S' → K' r' S') → c r S fun k S' => if k = true then b r S' K' else K r S') : ∀ n r S, I n r S → ∃ m, whlL c b K m r S := by
  have key : ∀ N n r S, n < N → I n r S → whlL c b K N r S := by
    intro N
    induction N with
    | zero => intro n r S h; omega
    | succ N ih => exact fun n r S hn h => hs n r S _ h fun m r' S' hm hI => ih m r' S' (by omega) hI
  exact fun n r S h => ⟨n + 1, key (n + 1) n r S (Nat.lt_succ_self n) h⟩
/-- all places but these stay as they were -/
def Kp (ps : List Nat) (S S' : Sto) : Prop := S.length ≤ S'.length ∧ ∀ n, n < S.length → n ∉ ps → S'[n]? = S[n]?
theorem Kp.refl {ps : List Nat} {S : Sto} : Kp ps S S := ⟨Nat.le_refl _, fun _ _ _ => rfl⟩
theorem Kp.trans {ps : List Nat} {S S1 S2 : Sto} (a : Kp ps S S1) (b : Kp ps S1 S2) : Kp ps S S2 :=
  ⟨Nat.le_trans a.1 b.1, fun n h1 h2 => (b.2 n (Nat.lt_of_lt_of_le h1 a.1) h2).trans (a.2 n h1 h2)⟩
theorem Kp.mono {ps qs : List Nat} {S S' : Sto} (a : Kp ps S S') (h : ∀ n ∈ ps, n ∈ qs) : Kp qs S S' := ⟨a.1, fun n h1 h2 => a.2 n h1 fun h3 => h2 (h n h3)⟩
/-- what is written is younger -/
theorem Kp.young {ps : List Nat} {S S1 S2 : Sto} (a : Kp [] S S1) (b : Kp ps S1 S2) (h : ∀ n ∈ ps, S.length ≤ n) : Kp [] S S2 :=
  ⟨Nat.le_trans a.1 b.1, fun n h1 h2 => (b.2 n (Nat.lt_of_lt_of_le h1 a.1) fun h3 => by have := h n h3; omega).trans (a.2 n h1 h2)⟩
theorem Kp.app {ps : List Nat} {S : Sto} (T : Sto) : Kp ps S (S ++ T) := ⟨by rw [List.length_append]; omega, fun n h _ => List.getElem?_append_left h⟩
theorem Kp.set {p : Nat} {S : Sto} {o : Obj} {ps : List Nat} (h : p ∈ ps) : Kp ps S (S.set p o) := ⟨by rw [List.length_set]; exact Nat.le_refl _, fun n _ hn => by rw [List.getElem?_set_ne]; intro e; exact hn (e ▸ h)⟩
theorem getL_lt {S : Sto} {n : Nat} {l : List Val} (h : getL S n = some l) : n < S.length := (List.getElem?_eq_some_iff.mp (getL_at h)).1
theorem rdL_lt {S : Sto} {n : Nat} {l : List Val} (h : rdL S n = some l) : n < S.length := by
  unfold rdL at h
  cases q : S[n]? with
  | none => rw [q] at h; cases h
  | some o => exact (List.getElem?_eq_some_iff.mp q).1
theorem Kp.getL {ps : List Nat} {S S' : Sto} (a : Kp ps S S') {n : Nat} {l : List Val} (h : Mp.getL S n = some l) (hn : n ∉ ps) : Mp.getL S' n = some l := by
  have e := a.2 n (getL_lt h) hn
  unfold Mp.getL at h ⊢
  rw [e]
  exact h
theorem Kp.rdL {ps : List Nat} {S S' : Sto} (a : Kp ps S S') {n : Nat} {l : List Val} (h : Mp.rdL S n = some l) (hn : n ∉ ps) : Mp.rdL S' n = some l := by
  have e := a.2 n (rdL_lt h) hn
  unfold Mp.rdL at h ⊢
  rw [e]
  exact h
theorem getL_new {S : Sto} {l : List Val} : getL (S ++ [.lst l]) S.length = some l := by unfold getL; rw [List.getElem?_append_right (Nat.le_refl _), Nat.sub_self]; rfl
theorem getL_set {S : Sto} {n : Nat} {l l' : List Val} (h : getL S n = some l) : getL (S.set n (.lst l')) n = some l' := by
  unfold getL
  rw [List.getElem?_set_self (getL_lt h)]
theorem getL_rdL {S : Sto} {n : Nat} {l : List Val} (h : getL S n = some l) : rdL S n = some l := gts h
/-! ### data -/
theorem toD_int {n : Nat} {S : Sto} {i : Int} : toD (n + 1) S (.int i) = some (.int i) := by simp [toD]
theorem mapM_int {n : Nat} {S : Sto} : ∀ l : List Int, (l.map Val.int).mapM (toD (n + 1) S) = some (l.map PyData.int)
  | [] => rfl
  | i :: l => by
    rw [List.map_cons, List.mapM_cons, toD_int, mapM_int l]
    rfl
theorem toD_list {n : Nat} {S : Sto} {k : Nat} {l : List Int} (h : rdL S k = some (l.map .int)) : toD (n + 2) S (.obj k) = some (.list (l.map PyData.int)) := by
  show (match rdL S k with | some l => (l.mapM (toD (n + 1) S)).map PyData.list | none => none) = _
  rw [h]
  show ((l.map Val.int).mapM (toD (n + 1) S)).map PyData.list = _
  rw [mapM_int]
  rfl
theorem toD_tup {n : Nat} {S : Sto} {l : List Int} : toD (n + 2) S (.tup (l.map .int)) = some (.tuple (l.map PyData.int)) := by
  show ((l.map Val.int).mapM (toD (n + 1) S)).map PyData.tuple = _
  rw [mapM_int]
  rfl
def okD (d : PyData) : Prop := d.showable = true ∧ d.shown.length ≤ 16777216
theorem showable_ints : ∀ l : List Int, (∀ i ∈ l, i.natAbs < 10 ^ 12) → PyData.showableAll (l.map .int) = true
  | [], _ => rfl
  | i :: l, h => by
    rw [List.map_cons]
    simp only [PyData.showableAll, PyData.showable, Bool.and_eq_true, decide_eq_true_eq]
    refine ⟨?_, showable_ints l fun j hj => h j (List.mem_cons_of_mem _ hj)⟩
    by_cases h0 : i.natAbs = 0
    · rw [h0]; decide
    · have := h i List.mem_cons_self
      rw [Nat.log2_lt h0]
      exact Nat.lt_trans this (by decide)
theorem canLay_ints : ∀ l : List Int, PyData.canLayAll0 (l.map .int) = true := fun l => canLay_all fun d hd => by
  obtain ⟨i, _, rfl⟩ := List.mem_map.mp hd
  simp [PyData.canLay0]
theorem weight_ints : ∀ l : List Int, PyData.weightAll (l.map .int) ≤ 41 * l.length + (l.map fun i => i.natAbs.log2).sum
  | [] => by simp [PyData.weightAll]
  | i :: l => by
    have := weight_ints l
    simp only [List.map_cons, PyData.weightAll, PyData.weight, List.length_cons, List.sum_cons] at *
    split <;> omega
theorem log_sum : ∀ l : List Int, (∀ i ∈ l, i.natAbs < 10 ^ 12) → (l.map fun i => i.natAbs.log2).sum ≤ 40 * l.length
  | [], _ => by simp
  | i :: l, h => by
    have h1 := log_sum l fun j hj => h j (List.mem_cons_of_mem _ hj)
    have h2 : i.natAbs.log2 < 40 := by
      by_cases h0 : i.natAbs = 0
      · rw [h0]; decide
      · rw [Nat.log2_lt h0]; exact Nat.lt_trans (h i List.mem_cons_self) (by decide)
    simp only [List.map_cons, List.sum_cons, List.length_cons]
    omega
theorem layable_ints {l : List Int} (h : ∀ i ∈ l, i.natAbs < 10 ^ 12) (hl : l.length ≤ 10000) : PyData.layable0 (.list (l.map .int)) = true ∧ PyData.layable0 (.tuple (l.map .int)) = true := by
  have h1 := canLay_ints l
  have h2 : PyData.depthAll (l.map .int) ≤ 1 := depth_all fun d hd => by
    obtain ⟨i, _, rfl⟩ := List.mem_map.mp hd
    simp [PyData.depth]
  have h3 := weight_ints l
  have h4 := log_sum l h
  have e : (2 : Nat) ^ 20 = 1048576 := by decide
  have w : PyData.weightAll (l.map .int) ≤ 1048576 := by omega
  have k : PyData.depthAll (l.map .int) + 1 ≤ 64 := by omega
  have k' : PyData.depthAll (l.map .int) ≤ 64 := by omega
  unfold PyData.layable0
  constructor <;> simp [PyData.canLay0, PyData.depth, PyData.weight, h1, e, w, k, k'] <;> omega
theorem okD_ints {l : List Int} (h : ∀ i ∈ l, i.natAbs < 10 ^ 12) (hl : l.length ≤ 10000) : okD (.list (l.map .int)) ∧ okD (.tuple (l.map .int)) := by
  obtain ⟨a, b⟩ := layable_ints h hl
  have s := showable_ints l h
  have q1 := PyData.shown_le_of_layable0 a (by simpa [PyData.intsShort] using PyData.intsShortAll_ints l h)
  have q2 := PyData.shown_le_of_layable0 b (by simpa [PyData.intsShort] using PyData.intsShortAll_ints l h)
  exact ⟨⟨by simpa [PyData.showable] using s, by omega⟩, ⟨by simpa [PyData.showable] using s, by omega⟩⟩
/-! ### new places -/
theorem gL0 {S T : Sto} {l : List Val} : getL (S ++ .lst l :: T) S.length = some l := by unfold getL; rw [List.getElem?_append_right (Nat.le_refl _), Nat.sub_self]; rfl
theorem gL1 {S T : Sto} {o : Obj} {l : List Val} : getL (S ++ o :: .lst l :: T) (S.length + 1) = some l := by unfold getL; rw [List.getElem?_append_right (by omega), Nat.add_sub_cancel_left]; rfl
theorem gL2 {S T : Sto} {o o2 : Obj} {l : List Val} : getL (S ++ o :: o2 :: .lst l :: T) (S.length + 2) = some l := by unfold getL; rw [List.getElem?_append_right (by omega), Nat.add_sub_cancel_left]; rfl
theorem gL3 {S T : Sto} {o o2 o3 : Obj} {l : List Val} : getL (S ++ o :: o2 :: o3 :: .lst l :: T) (S.length + 3) = some l := by unfold getL; rw [List.getElem?_append_right (by omega), Nat.add_sub_cancel_left]; rfl
theorem rL0 {S T : Sto} {l : List Val} : rdL (S ++ .lst l :: T) S.length = some l := gts gL0
theorem rL1 {S T : Sto} {o : Obj} {l : List Val} : rdL (S ++ o :: .lst l :: T) (S.length + 1) = some l := gts gL1
theorem rL2 {S T : Sto} {o o2 : Obj} {l : List Val} : rdL (S ++ o :: o2 :: .lst l :: T) (S.length + 2) = some l := gts gL2
theorem rL3 {S T : Sto} {o o2 o3 : Obj} {l : List Val} : rdL (S ++ o :: o2 :: o3 :: .lst l :: T) (S.length + 3) = some l := gts gL3
theorem gLo {S T : Sto} {n : Nat} {l : List Val} (h : getL S n = some l) : getL (S ++ T) n = some l := (Kp.app (ps := []) T).getL h (by simp)
theorem rLo {S T : Sto} {n : Nat} {l : List Val} (h : rdL S n = some l) : rdL (S ++ T) n = some l := (Kp.app (ps := []) T).rdL h (by simp)
theorem Kp.young2 {ps qs : List Nat} {S S1 S2 : Sto} (a : Kp ps S S1) (b : Kp qs S1 S2) (h : ∀ n ∈ qs, n ∈ ps ∨ S.length ≤ n) : Kp ps S S2 :=
  ⟨Nat.le_trans a.1 b.1, fun n h1 h2 => (b.2 n (Nat.lt_of_lt_of_le h1 a.1) fun h3 => by rcases h n h3 with q | q; exact h2 q; omega).trans (a.2 n h1 h2)⟩
/-- a comprehension whose turns leave all places known before -/
theorem lcL_kp {g : Sto → Prop} {step : Val → Sto → (Option Val → Sto → Prop) → Prop} {K : List Val → Sto → Prop} {S0 : Sto} (f : Val → Val) (hg : ∀ S, Kp [] S0 S → g S) : ∀ (l acc : List Val) (S : Sto), Kp [] S0 S →
    (∀ v ∈ l, ∀ S (K' : Option Val → Sto → Prop), Kp [] S0 S → (∀ S', Kp [] S S' → K' (some (f v)) S') → step v S K') → (∀ S, Kp [] S0 S → K (acc ++ l.map f) S) → lcL g step K l acc S
  | [], acc, S, k, _, h => ⟨hg S k, by simpa using h S k⟩
  | v :: l, acc, S, k, hs, h => ⟨hg S k, hs v List.mem_cons_self S _ k fun S' k' => lcL_kp f hg l (acc ++ [f v]) S' (k.trans k') (fun u hu => hs u (List.mem_cons_of_mem _ hu)) fun S2 k2 => by simpa using h S2 k2⟩
theorem intsOf_map : ∀ l : List Int, intsOf (l.map Val.int) = some l
  | [] => rfl
  | i :: l => by rw [List.map_cons, intsOf, intsOf_map l]; rfl
theorem intsOf_app0 (l : List Int) : intsOf (l.map Val.int ++ [Val.int 0]) = some (l ++ [0]) := by
  have := intsOf_map (l ++ [0])
  rw [List.map_append] at this
  exact this
/-- the greatest, at least 0 -/
def mx0 (l : List Int) : Int := l.foldr max 0
theorem mx0_le : ∀ {l : List Int} {i : Int}, i ∈ l → i ≤ mx0 l
  | a :: l, i, h => by
    have e : mx0 (a :: l) = max a (mx0 l) := rfl
    rcases List.mem_cons.mp h with rfl | h
    · omega
    · have := mx0_le h; omega
theorem mx0_nn : ∀ l : List Int, 0 ≤ mx0 l
  | [] => Int.le_refl _
  | a :: l => by
    have e : mx0 (a :: l) = max a (mx0 l) := rfl
    have := mx0_nn l
    omega
theorem mx0_mem : ∀ l : List Int, mx0 l = 0 ∨ mx0 l ∈ l
  | [] => .inl rfl
  | a :: l => by
    have e : mx0 (a :: l) = max a (mx0 l) := rfl
    rcases mx0_mem l with h | h
    · rcases Int.le_total a (mx0 l) with q | q
      · left; omega
      · right; have : mx0 (a :: l) = a := by omega
        rw [this]; exact List.mem_cons_self
    · rcases Int.le_total a (mx0 l) with q | q
      · right; have : mx0 (a :: l) = mx0 l := by omega
        rw [this]; exact List.mem_cons_of_mem _ h
      · right; have : mx0 (a :: l) = a := by omega
        rw [this]; exact List.mem_cons_self
theorem mx0_app0 {l : List Int} {m : Int} (h1 : m ∈ l ++ [0]) (h2 : ∀ y ∈ l ++ [0], y ≤ m) : m = mx0 l := by
  have h3 : 0 ≤ m := h2 0 (by simp)
  have h4 : mx0 l ≤ m := by
    rcases mx0_mem l with h | h
    · omega
    · exact h2 _ (List.mem_append_left _ h)
  rcases List.mem_append.mp h1 with h | h
  · have := mx0_le h; omega
  · simp at h; have := mx0_nn l; omega
theorem mx0_max {l : List Int} {m : Int} (hn : ∀ i ∈ l, 0 ≤ i) (h1 : m ∈ l) (h2 : ∀ y ∈ l, y ≤ m) : m = mx0 l := by
  have h3 := hn m h1
  have h4 := mx0_le h1
  rcases mx0_mem l with h | h
  · omega
  · have := h2 _ h; omega
theorem mx0_append (l k : List Int) : mx0 (l ++ k) = max (mx0 l) (mx0 k) := by
  induction l with
  | nil => have := mx0_nn k; show mx0 k = max 0 (mx0 k); omega
  | cons a l ih =>
    have e : mx0 (a :: l ++ k) = max a (mx0 (l ++ k)) := rfl
    have e2 : mx0 (a :: l) = max a (mx0 l) := rfl
    omega
theorem mx0_zero : ∀ {l : List Int}, (∀ i ∈ l, i = 0) → mx0 l = 0
  | [], _ => rfl
  | a :: l, h => by
    have e : mx0 (a :: l) = max a (mx0 l) := rfl
    have := mx0_zero fun i hi => h i (List.mem_cons_of_mem a hi)
    have := h a List.mem_cons_self
    omega
def fI (f : Int → Int) : Val → Val
  | .int i => .int (f i)
  | v => v
theorem map_fI (f : Int → Int) (l : List Int) : (l.map Val.int).map (fI f) = (l.map f).map Val.int := by
  rw [List.map_map, List.map_map]
  rfl
theorem rgV_fI (f : Int → Int) (i : Int) (n : Nat) : (Mp.rgV i n).map (fI f) = ((List.range n).map fun k : Nat => f (i + (k : Nat))).map Val.int := by
  unfold Mp.rgV
  rw [List.map_map, List.map_map]
  rfl
theorem rgV_mem {i : Int} {n : Nat} {v : Val} (h : v ∈ Mp.rgV i n) : ∃ k : Nat, k < n ∧ v = .int (i + (k : Nat)) := by
  unfold Mp.rgV at h
  obtain ⟨k, hk, rfl⟩ := List.mem_map.mp h
  exact ⟨k, List.mem_range.mp hk, rfl⟩
theorem at_ofNat {α : Type} {l : List α} {k : Nat} {v : α} (h : l[k]? = some v) : L2.atI l (k : Int) = some v := by
  have hk := (List.getElem?_eq_some_iff.mp h).1
  unfold L2.atI L2.ixN
  have h1 : ¬ ((k : Int) < 0) := by omega
  simp [h1, hk]
  exact (List.getElem?_eq_some_iff.mp h).2
/-- a loop that looks for the first with an answer -/
theorem forL_find {g : Sto → Prop} {step : Val → Env → Sto → (Env → Sto → Prop) → Prop} {K : Env → Sto → Prop} (f : Val → Option Val) (I : Env → Sto → Prop) (J : Sto → Prop) (RET : QV) (hg : ∀ r S, I r S → g S) : ∀ (l : List Val),
    (∀ v ∈ l, ∀ r S (K' : Env → Sto → Prop), I r S → (f v = none → ∀ r' S', I r' S' → K' r' S') → (∀ u S', f v = some u → J S' → RET u S') → step v r S K') →
    (∀ u S', l.findSome? f = some u → J S' → RET u S') → (l.findSome? f = none → ∀ r S, I r S → K r S) → ∀ r S, I r S → forL g step K l r S
  | [], _, _, h2, r, S, hI => ⟨hg r S hI, h2 rfl r S hI⟩
  | v :: l, hs, h1, h2, r, S, hI => by
    refine ⟨hg r S hI, hs v List.mem_cons_self r S _ hI (fun hn r' S' hI' => ?_) fun u S' hu hJ => h1 u S' (by rw [List.findSome?_cons, hu]) hJ⟩
    have e : (v :: l).findSome? f = l.findSome? f := by rw [List.findSome?_cons, hn]
    exact forL_find f I J RET hg l (fun w hw => hs w (List.mem_cons_of_mem _ hw)) (fun u S' hu => h1 u S' (e.trans hu)) (fun hn2 => h2 (e.trans hn2)) r' S' hI'
/-- two ways that meet again -/
theorem join2 {α : Type} {T : α → Sto → Prop} (P : α → Sto → Prop) {R : Prop} (h : (∀ a S, P a S → T a S) → R) (ht : ∀ a S, P a S → T a S) : R := h ht
theorem lcL_kpm {α : Type} {g : Sto → Prop} {step : Val → Sto → (Option Val → Sto → Prop) → Prop} {K : List Val → Sto → Prop} {S0 : Sto} (h : α → Val) (f : α → Val) (hg : ∀ S, Kp [] S0 S → g S) : ∀ (l : List α) (acc : List Val) (S : Sto), Kp [] S0 S →
    (∀ v ∈ l, ∀ S (K' : Option Val → Sto → Prop), Kp [] S0 S → (∀ S', Kp [] S S' → K' (some (f v)) S') → step (h v) S K') → (∀ S, Kp [] S0 S → K (acc ++ l.map f) S) → lcL g step K (l.map h) acc S
  | [], acc, S, k, _, hK => ⟨hg S k, by simpa using hK S k⟩
  | v :: l, acc, S, k, hs, hK => ⟨hg S k, hs v List.mem_cons_self S _ k fun S' k' => lcL_kpm h f hg l (acc ++ [f v]) S' (k.trans k') (fun u hu => hs u (List.mem_cons_of_mem _ hu)) fun S2 k2 => by simpa using hK S2 k2⟩
theorem lcL_kpf {α : Type} {g : Sto → Prop} {step : Val → Sto → (Option Val → Sto → Prop) → Prop} {K : List Val → Sto → Prop} {S0 : Sto} (h : α → Val) (f : α → Option Val) (hg : ∀ S, Kp [] S0 S → g S) : ∀ (l : List α) (acc : List Val) (S : Sto), Kp [] S0 S →
    (∀ v ∈ l, ∀ S (K' : Option Val → Sto → Prop), Kp [] S0 S → (∀ S', Kp [] S S' → K' (f v) S') → step (h v) S K') → (∀ S, Kp [] S0 S → K (acc ++ l.filterMap f) S) → lcL g step K (l.map h) acc S
  | [], acc, S, k, _, hK => ⟨hg S k, by simpa using hK S k⟩
  | v :: l, acc, S, k, hs, hK => ⟨hg S k, hs v List.mem_cons_self S _ k fun S' k' => by
      refine lcL_kpf h f hg l _ S' (k.trans k') (fun u hu => hs u (List.mem_cons_of_mem _ hu)) fun S2 k2 => ?_
      have := hK S2 k2
      rw [List.filterMap_cons] at this
      cases q : f v with
      | none => rw [q] at this; exact this
      | some y => rw [q] at this; simpa using this⟩
theorem at_zero {α : Type} {a : α} {l : List α} : L2.atI (a :: l) 0 = some a := by
  have := at_ofNat (l := a :: l) (k := 0) (v := a) rfl
  simpa using this
theorem toD_bl {n : Nat} {S : Sto} {b : Bool} : toD (n + 1) S (.bl b) = some (.bool b) := by simp [toD]
theorem toD_non {n : Nat} {S : Sto} : toD (n + 1) S .non = some .none := by simp [toD]
theorem okD_bl {b : Bool} : okD (.bool b) := by cases b <;> exact ⟨by decide, by decide⟩
theorem isi_dict {n : Nat} {S : Sto} {v : Val} {d : PyData} (h : toD (n + 1) S v = some d) : isiS "dict" S v = some false := by
  cases v with
  | obj k =>
    have h' : (match rdL S k with | some l => (l.mapM (toD n S)).map PyData.list | none => none) = some d := h
    have ht : tyN S (.obj k) = some "list" := by
      unfold rdL at h'
      unfold tyN
      cases q : S[k]? with
      | none => rw [q] at h'; cases h'
      | some o =>
        rw [q] at h'
        cases o with
        | lst l => simp [q]
        | frz l => simp [q]
        | dic l => cases h'
        | dtu l ob => cases h'
        | dki l ob => cases h'
        | ins c fs => cases h'
    unfold isiS
    rw [ht]
    rfl
  | exn a c => simp [toD] at h
  | _ => rfl
/-- a loop over the images of a list, by what is done of it -/
theorem forL_dn {α : Type} {g : Sto → Prop} {step : Val → Env → Sto → (Env → Sto → Prop) → Prop} {K : Env → Sto → Prop} (h : α → Val) (xs : List α) (I : List α → Env → Sto → Prop)
    (hs : ∀ dn v td, dn ++ v :: td = xs → ∀ r S (K' : Env → Sto → Prop), I dn r S → (∀ r' S', I (dn ++ [v]) r' S' → K' r' S') → g S ∧ step (h v) r S K') (he : ∀ r S, I xs r S → g S ∧ K r S) {r : Env} {S : Sto} (h0 : I [] r S) : forL g step K (xs.map h) r S := by
  have key : ∀ td dn, dn ++ td = xs → ∀ r S, I dn r S → forL g step K (td.map h) r S := by
    intro td
    induction td with
    | nil =>
      intro dn e r S hI
      rw [List.append_nil] at e
      subst e
      exact he r S hI
    | cons v td ih =>
      intro dn e r S hI
      exact hs dn v td e r S _ hI fun r' S' hI' => ih (dn ++ [v]) (by rw [← e]; simp) r' S' hI'
  exact key xs [] rfl r S h0
theorem rgV_map (i : Int) (n : Nat) : Mp.rgV i n = (List.range n).map fun k : Nat => Val.int (i + (k : Int)) := rfl
theorem filt_if {α β : Type} (p : α → Bool) (g : α → β) : ∀ l : List α, l.filterMap (fun a => if p a = true then some (g a) else none) = (l.filter p).map g
  | [] => rfl
  | a :: l => by
    rw [List.filterMap_cons, List.filter_cons]
    cases e : p a with
    | true => simp [filt_if p g l]
    | false => simp [filt_if p g l]
theorem filt_all {α : Type} (p : α → Bool) : ∀ l : List α, (l.filter fun a => !p a).isEmpty = l.all p
  | [] => rfl
  | a :: l => by
    rw [List.filter_cons, List.all_cons, ← filt_all p l]
    cases p a <;> simp
theorem bls_map {α : Type} (p : α → Bool) : ∀ l : List α, blsOf (l.map fun x => Val.bl (p x)) = some (l.map p)
  | [] => rfl
  | a :: l => by rw [List.map_cons, blsOf, bls_map p l]; rfl
theorem range_at {n j : Nat} {dn td : List Nat} (h : dn ++ j :: td = List.range n) : j = dn.length ∧ j < n := by
  have h1 : (List.range n)[dn.length]? = some j := by rw [← h, List.getElem?_append_right (Nat.le_refl _), Nat.sub_self]; rfl
  obtain ⟨h2, h3⟩ := List.getElem?_eq_some_iff.mp h1
  rw [List.getElem_range] at h3
  rw [List.length_range] at h2
  omega
def rowV (r : List Int) : Val := .tup (r.map .int)
def rowD (r : List Int) : PyData := .tuple (r.map .int)
theorem toD_rowV {n : Nat} {S : Sto} (r : List Int) : toD (n + 2) S (rowV r) = some (rowD r) := toD_tup
theorem lcL_dn {α : Type} {g : Sto → Prop} {step : Val → Sto → (Option Val → Sto → Prop) → Prop} {K : List Val → Sto → Prop} (h : α → Val) (xs : List α) (I : List α → List Val → Sto → Prop)
    (hs : ∀ dn v td, dn ++ v :: td = xs → ∀ acc S (K' : Option Val → Sto → Prop), I dn acc S → (∀ o S', I (dn ++ [v]) (match o with | some y => acc ++ [y] | none => acc) S' → K' o S') → g S ∧ step (h v) S K') (he : ∀ acc S, I xs acc S → g S ∧ K acc S) {S : Sto} (h0 : I [] [] S) : lcL g step K (xs.map h) [] S := by
  have key : ∀ td dn, dn ++ td = xs → ∀ acc S, I dn acc S → lcL g step K (td.map h) acc S := by
    intro td
    induction td with
    | nil =>
      intro dn e acc S hI
      rw [List.append_nil] at e
      subst e
      exact he acc S hI
    | cons v td ih =>
      intro dn e acc S hI
      exact hs dn v td e acc S _ hI fun o S' hI' => ih (dn ++ [v]) (by rw [← e]; simp) _ S' hI'
  exact key xs [] rfl [] S h0
theorem eqv_list_nil : ∀ l : List PyData, PyData.eqv (.list l) (.list []) = l.isEmpty
  | [] => by simp [PyData.eqv, PyData.eqvAll]
  | i :: l => by simp [PyData.eqv, PyData.eqvAll]
theorem enumV_ints : ∀ (l : List Int) (k : Nat), enumV k (l.map Val.int) = (l.zipIdx k).map fun p => Val.tup [.int (p.2 : Nat), .int p.1]
  | [], _ => rfl
  | a :: l, k => by rw [List.map_cons, enumV, enumV_ints l (k + 1), List.zipIdx_cons, List.map_cons]
theorem eqv_tup_nil {l : List Int} (h : l ≠ []) : PyData.eqv (.tuple (l.map .int)) (.tuple []) = false := by
  cases l with
  | nil => exact absurd rfl h
  | cons a l => simp [PyData.eqv, PyData.eqvAll]
theorem sg2 {k : Int} (h1 : 0 ≤ k) (h2 : k < 2) : 1 - 2 * k = 1 ∨ 1 - 2 * k = -1 := by omega
theorem zip_at {α : Type} {l : List α} {dn td : List (α × Nat)} {x : α} {m : Nat} (h : dn ++ (x, m) :: td = l.zipIdx) : m = dn.length := by
  have h1 : l.zipIdx[dn.length]? = some (x, m) := by rw [← h, List.getElem?_append_right (Nat.le_refl _), Nat.sub_self]; rfl
  rw [List.getElem?_zipIdx] at h1
  obtain ⟨a, _, e⟩ := Option.map_eq_some_iff.mp h1
  have := congrArg Prod.snd e
  simp at this
  omega
theorem cut_mem {α : Type} {l : List α} {lo hi : Option Int} {v : α} (h : v ∈ cut l lo hi) : v ∈ l := by
  unfold cut at h
  exact List.mem_of_mem_drop (List.mem_of_mem_take h)
theorem cut_len {α : Type} (l : List α) (lo hi : Option Int) : (cut l lo hi).length ≤ l.length := by
  unfold cut
  rw [List.length_take, List.length_drop]
  omega
/-- the k-th of the new places -/
theorem gLn {S T : Sto} {k : Nat} {l : List Val} (h : T[k]? = some (.lst l)) : getL (S ++ T) (S.length + k) = some l := by
  unfold getL
  rw [List.getElem?_append_right (by omega), Nat.add_sub_cancel_left, h]
theorem rLn {S T : Sto} {k : Nat} {l : List Val} (h : T[k]? = some (.lst l)) : rdL (S ++ T) (S.length + k) = some l := gts (gLn h)
/-! is_whole, is_from, is_sign -/
def isW : Val → Bool
  | .int _ => true
  | _ => false
theorem s_is_whole {n : Nat} {v : Val} {S : Sto} {Q : QV} {X : QX} (h : Q (.bl (isW v)) S) (ht : (tyN S v).isSome = true := by rfl) : callN G (n + 1) "is_whole" [v] S Q X := by
  refine ⟨_, G_is_whole, rfl, ?_⟩
  cases v with
  | obj k =>
    obtain ⟨t, ht⟩ := Option.isSome_iff_exists.mp ht
    have hn : t = "list" ∨ t = "dict" := by
      have ht' : (match S[k]? with | some (.lst _) => some "list" | some (.frz _) => some "list" | some (.dic _) => some "dict" | some (.dtu _ _) => some "dict" | some (.dki _ _) => some "dict" | _ => none) = some t := ht
      split at ht'
      · exact .inl (Option.some.inj ht').symm
      · exact .inl (Option.some.inj ht').symm
      · exact .inr (Option.some.inj ht').symm
      · exact .inr (Option.some.inj ht').symm
      · exact .inr (Option.some.inj ht').symm
      · cases ht'
    have i1 : isiS "int" S (.obj k) = some false := by
      unfold isiS
      rw [ht]
      rcases hn with rfl | rfl <;> rfl
    simp [execs, exec, ev, evA, startE, truV, F_is_whole, i1]
    exact h
  | exn a c => simp [tyN] at ht
  | _ => simp [execs, exec, ev, evs, evA, evO, evo, evc, evI, startE, asgT, setAll, truV, binS, cmpS, cmpI, isS, isNon_non, isNon_int, isNon_bl, isNon_tup, isNon_str, isNon_obj, biS, metS, metT, isiS, tyN, tyOk, ixS, slS, putS, alloc, wipeE, seqOf, F_is_whole]; exact h
def isFr (v : Val) (a b : Int) : Bool := match v with
  | .int i => decide (a ≤ i) && decide (i ≤ b)
  | _ => false
def isSg : Val → Bool
  | .int i => decide ((i.natAbs : Int) = 1)
  | _ => false
theorem isSg_ty {v : Val} {S : Sto} (h : isSg v = true) : (tyN S v).isSome = true := by cases v <;> first | rfl | (simp [isSg] at h)
theorem s_is_sign {n : Nat} {v : Val} {S : Sto} {Q : QV} {X : QX} (h : Q (.bl (isSg v)) S) (ht : (tyN S v).isSome = true := by rfl) : callN G (n + 2) "is_sign" [v] S Q X := by
  refine ⟨_, G_is_sign, rfl, ?_⟩
  simp [execs, exec, ev, evs, evA, evO, evo, evc, evI, startE, asgT, setAll, truV, binS, cmpS, cmpI, isS, isNon_non, isNon_int, isNon_bl, isNon_tup, isNon_str, isNon_obj, biS, metS, metT, isiS, tyN, tyOk, ixS, slS, putS, alloc, wipeE, seqOf, F_is_sign]
  refine s_is_whole ?_ ht
  cases v with
  | int i => simpa [isW, isSg, execs, exec, ev, evs, evA, evO, evo, evc, evI, startE, asgT, setAll, truV, binS, cmpS, cmpI, isS, isNon_non, isNon_int, isNon_bl, isNon_tup, isNon_str, isNon_obj, biS, metS, metT, isiS, tyN, tyOk, ixS, slS, putS, alloc, wipeE, seqOf, eqS] using h
  | _ => simpa [isW, isSg, execs, exec, ev, evs, evA, evO, evo, evc, evI, startE, asgT, setAll, truV, binS, cmpS, cmpI, isS, isNon_non, isNon_int, isNon_bl, isNon_tup, isNon_str, isNon_obj, biS, metS, metT, isiS, tyN, tyOk, ixS, slS, putS, alloc, wipeE, seqOf, eqS] using h
/-- signs: 1 and -1 -/
def sgs (l : List Int) : Prop := ∀ i ∈ l, i = 1 ∨ i = -1
theorem sgs_isSg {l : List Int} (h : sgs l) {v : Val} (hv : v ∈ l.map Val.int) : isSg v = true := by
  obtain ⟨i, hi, rfl⟩ := List.mem_map.mp hv
  rcases h i hi with rfl | rfl <;> rfl
theorem bls_true : ∀ {m : List Val}, (∀ v ∈ m, v = .bl true) → ∃ bs, blsOf m = some bs ∧ bs.all id = true
  | [], _ => ⟨[], rfl, rfl⟩
  | v :: m, h => by
    obtain ⟨bs, h1, h2⟩ := bls_true (m := m) fun u hu => h u (List.mem_cons_of_mem _ hu)
    rw [h v List.mem_cons_self]
    exact ⟨true :: bs, by rw [blsOf, h1]; rfl, by rw [List.all_cons, h2]; rfl⟩
theorem sgs_small {l : List Int} (h : sgs l) : ∀ i ∈ l, i.natAbs < 10 ^ 12 := fun i hi => by
  rcases h i hi with rfl | rfl <;> decide
theorem sgs_neg {l : List Int} (h : sgs l) : sgs (l.map fun i => -i) := fun i hi => by
  obtain ⟨j, hj, rfl⟩ := List.mem_map.mp hi
  rcases h j hj with rfl | rfl <;> decide
theorem sgs_nil : sgs [] := fun i hi => absurd hi (by simp)
theorem s_a_row {n : Nat} {l : List Int} {S : Sto} {Q : QV} {X : QX} (hs : sgs l) (hl : l.length ≤ 100) (h : ∀ S', Kp [] S S' → Q (.bl true) S') : callN G (n + 3) "a_row" [.tup (l.map .int)] S Q X := by
  refine ⟨_, G_a_row, rfl, ?_⟩
  have hm := fun v hv => sgs_isSg hs (v := v) hv
  have e : ((l.map Val.int).length : Int) ≤ 100 := by rw [List.length_map]; omega
  generalize l.map Val.int = vs at hm e ⊢
  simp [execs, exec, ev, evs, evA, evO, evo, evc, evI, startE, asgT, setAll, truV, binS, cmpS, cmpI, isS, isNon_non, isNon_int, isNon_bl, isNon_tup, isNon_str, isNon_obj, biS, metS, metT, isiS, tyN, tyOk, ixS, slS, putS, alloc, wipeE, seqOf, F_a_row, e]
  refine lcL_map (fun _ => some (.bl true)) trivial _ _ (fun v hv K' hk => ?_) ?_
  · exact s_is_sign (by rw [hm v hv]; exact hk) (isSg_ty (hm v hv))
  · obtain ⟨bs, h1, h2⟩ := bls_true (m := [] ++ vs.filterMap fun _ => some (Val.bl true)) fun v hv => by
      rw [List.nil_append] at hv
      obtain ⟨_, _, h⟩ := List.mem_filterMap.mp hv
      exact (Option.some.inj h).symm
    refine ⟨_, getL_rdL getL_new, bs, h1, ?_⟩
    rw [h2]
    exact h _ (Kp.app _)
theorem s_need_row {n : Nat} {l : List Int} {S : Sto} {Q : QV} {X : QX} (hs : sgs l) (hl : l.length ≤ 100) (h : ∀ S', Kp [] S S' → Q .non S') : callN G (n + 4) "need_row" [.tup (l.map .int)] S Q X := by
  refine ⟨_, G_need_row, rfl, ?_⟩
  simp [execs, exec, ev, evs, evA, evO, evo, evc, evI, startE, asgT, setAll, truV, binS, cmpS, cmpI, isS, isNon_non, isNon_int, isNon_bl, isNon_tup, isNon_str, isNon_obj, biS, metS, metT, isiS, tyN, tyOk, ixS, slS, putS, alloc, wipeE, seqOf, F_need_row]
  exact s_a_row hs hl fun S' k => by simpa using h S' k
/-- every step-th place -/
def alongL (l : List Int) (s : Int) : List Int := cutSt l (some (s - 1)) none s.toNat
theorem cutSt_map (l : List Int) (lo hi : Option Int) (st : Nat) : cutSt (l.map Val.int) lo hi st = (cutSt l lo hi st).map .int := by
  unfold cutSt
  rw [List.length_map, List.map_filterMap]
  congr 1
  funext m
  rw [List.getElem?_map]
theorem alongL_len (l : List Int) {s : Int} (hs : 1 ≤ s) : (alongL l s).length ≤ l.length := cutSt_len l _ _ (by omega)
/-- the sums so far, from t -/
def psums : Int → List Int → List Int
  | _, [] => []
  | t, i :: l => (t + i) :: psums (t + i) l
theorem psums_len : ∀ (l : List Int) (t : Int), (psums t l).length = l.length
  | [], _ => rfl
  | i :: l, t => by rw [psums, List.length_cons, List.length_cons, psums_len l]
/-- sums of signs are small -/
theorem psums_small : ∀ (l : List Int) (t : Int), sgs l → ∀ i ∈ psums t l, i.natAbs ≤ t.natAbs + l.length
  | [], _, _, _, h => by simp [psums] at h
  | a :: l, t, hs, i, h => by
    rw [psums] at h
    have ha := hs a List.mem_cons_self
    rw [List.length_cons]
    rcases List.mem_cons.mp h with rfl | h
    · rcases ha with rfl | rfl <;> omega
    · have := psums_small l (t + a) (fun j hj => hs j (List.mem_cons_of_mem _ hj)) i h
      rcases ha with rfl | rfl <;> omega
theorem sgs_along {l : List Int} (h : sgs l) (s : Int) : sgs (alongL l s) := fun i hi => by
  unfold alongL cutSt at hi
  obtain ⟨m, _, e⟩ := List.mem_filterMap.mp hi
  exact h i (List.mem_of_getElem? e)
theorem eqv_ints_nil : ∀ l : List Int, PyData.eqv (.list (l.map .int)) (.list []) = l.isEmpty
  | [] => by simp [PyData.eqv, PyData.eqvAll]
  | i :: l => by simp [PyData.eqv, PyData.eqvAll]
theorem at_neg1 {α : Type} {l : List α} {v : α} : L2.atI (l ++ [v]) (-1) = some v := by
  have e : L2.ixN (l ++ [v]).length (-1) = some l.length := by
    unfold L2.ixN
    rw [List.length_append, List.length_singleton]
    have h1 : ¬ (0 : Int) ≤ -1 := by decide
    rw [if_neg h1, if_pos (by omega)]
    congr 1
    omega
  unfold L2.atI
  rw [e]
  simp
theorem filt_range {α : Type} (f : Nat → Option α) : ∀ k : Nat, (List.range (k + 1)).filterMap f = (List.range k).filterMap f ++ (match f k with | some v => [v] | none => []) := fun k => by
  rw [List.range_succ, List.filterMap_append]
  congr 1
  rw [List.filterMap_cons, List.filterMap_nil]
  cases f k <;> rfl
theorem psums_app : ∀ (l : List Int) (t i : Int), psums t (l ++ [i]) = psums t l ++ [t + l.sum + i]
  | [], t, i => by simp [psums]
  | a :: l, t, i => by
    rw [List.cons_append, psums, psums, psums_app l, List.cons_append, List.sum_cons]
    congr 3
    omega
theorem psums_last : ∀ (l : List Int) (t i : Int), ∃ q, psums t (l ++ [i]) = q ++ [t + (l ++ [i]).sum] := fun l t i => ⟨psums t l, by rw [psums_app]; simp; omega⟩
/-- the pen: two ints, the first not below 0 -/
def Pen (S : Sto) (p : Nat) : Prop := ∃ a b, getL S p = some [.int a, .int b] ∧ 0 ≤ a
theorem Pen.keep {S S' : Sto} {p : Nat} {ps : List Nat} (h : Pen S p) (k : Kp ps S S') (hp : p ∉ ps) : Pen S' p := by
  obtain ⟨a, b, e, h⟩ := h
  exact ⟨a, b, k.getL e hp, h⟩
theorem at0 {α : Type} {a b : α} : L2.atI [a, b] 0 = some a := rfl
theorem at1 {α : Type} {a b : α} : L2.atI [a, b] 1 = some b := rfl
theorem ix20 : L2.ixN 2 0 = some 0 := rfl
theorem ix21 : L2.ixN 2 1 = some 1 := rfl
theorem s_draw {n : Nat} {p : Nat} {many : Int} {S : Sto} {Q : QV} {X : QX} (hp : Pen S p) (h1 : 0 < many) (h2 : many < 10000000000000000000000000000000) (h : ∀ k S', 0 ≤ k → k < many → Pen S' p → Kp [p] S S' → Q (.int k) S') : callN G (n + 1) "_law_draw" [.obj p, .int many] S Q X := by
  obtain ⟨a, b, e, ha⟩ := hp
  have h3 : many < 10000000000000000000000000000000000000000 := by omega
  refine ⟨_, G__law_draw, rfl, ?_⟩
  have e' := getL_rdL e
  have kp : ∀ l, Kp [p] S (S.set p (.lst l)) := fun l => Kp.set (List.mem_singleton.mpr rfl)
  by_cases hc : b = 1
  · simp [execs, exec, ev, evs, evA, evO, evo, evc, evI, startE, asgT, setAll, truV, binS, cmpS, cmpI, isS, isNon_non, isNon_int, isNon_bl, isNon_tup, isNon_str, isNon_obj, biS, metS, metT, isiS, tyN, tyOk, ixS, slS, putS, alloc, wipeE, seqOf, F__law_draw, e', e, at0, at1, hc, ix20, h1, h3, eqS]
    exact h _ _ (Int.emod_nonneg _ (by omega)) (Int.emod_lt_of_pos _ h1) ⟨_, 1, by rw [getL_set e], Int.ediv_nonneg ha (by omega)⟩ (kp _)
  · simp [execs, exec, ev, evs, evA, evO, evo, evc, evI, startE, asgT, setAll, truV, binS, cmpS, cmpI, isS, isNon_non, isNon_int, isNon_bl, isNon_tup, isNon_str, isNon_obj, biS, metS, metT, isiS, tyN, tyOk, ixS, slS, putS, alloc, wipeE, seqOf, F__law_draw, e', e, at0, at1, hc, ix20, eqS]
    have b1 : 0 ≤ (a % 2147483647 + 40503) * 69621 % 2147483629 := Int.emod_nonneg _ (by decide)
    have b2 : (a % 2147483647 + 40503) * 69621 % 2147483629 < 2147483629 := Int.emod_lt_of_pos _ (by decide)
    generalize (a % 2147483647 + 40503) * 69621 % 2147483629 = c at b1 b2 ⊢
    have d1 : 0 ≤ (c * c + 7817) % 2147483587 := Int.emod_nonneg _ (by decide)
    have d2 : (c * c + 7817) % 2147483587 < 2147483587 := Int.emod_lt_of_pos _ (by decide)
    generalize (c * c + 7817) % 2147483587 = d at d1 d2 ⊢
    have f1 : 0 ≤ (d * 48271 + 11) % 2147483629 := Int.emod_nonneg _ (by decide)
    generalize (d * 48271 + 11) % 2147483629 = f at f1 ⊢
    have e2 : getL (S.set p (.lst [.int f, .int b])) p = some [.int f, .int b] := getL_set e
    simp [getL_rdL e2, at0, mulOk]
    refine ⟨by omega, h1, ?_⟩
    exact h _ _ (Int.emod_nonneg _ (by omega)) (Int.emod_lt_of_pos _ h1) ⟨f, b, e2, f1⟩ (kp _)
theorem at_lt {α : Type} {l : List α} {i : Int} (h1 : 0 ≤ i) (h2 : i < l.length) : ∃ v, L2.atI l i = some v ∧ v ∈ l := by
  obtain ⟨k, rfl⟩ : ∃ k : Nat, i = (k : Int) := ⟨i.toNat, by omega⟩
  have hk : k < l.length := by omega
  exact ⟨l[k], at_ofNat (List.getElem?_eq_getElem hk), List.getElem_mem hk⟩
theorem s_pick {n : Nat} {p : Nat} (vs : List Val) {m : Int} {S : Sto} {Q : QV} {X : QX} (hp : Pen S p) (hm : m = vs.length) (hv : 0 < vs.length) (hb : vs.length < 1000) (h : ∀ k v S', rdL S' S.length = some vs → L2.atI vs k = some v → v ∈ vs → Pen S' p → Kp [p] S S' → Q (.int k) S') : callN G (n + 1) "_law_draw" [.obj p, .int m] (S ++ [.lst vs]) Q X := by
  have hpn : p < S.length := by obtain ⟨_, _, e, _⟩ := hp; exact getL_lt e
  refine s_draw (hp.keep (Kp.app (ps := []) _) (by simp)) (by omega) (by omega) fun k S1 h1 h2 p1 k1 => ?_
  have e := k1.rdL (n := S.length) (l := vs) rL0 (by simp; omega)
  obtain ⟨v, hv1, hv2⟩ := at_lt (l := vs) h1 (by omega)
  exact h k v S1 e hv1 hv2 p1 ((Kp.app _).trans k1)
theorem ite_call {c : Prop} [Decidable c] {C1 C2 : Call} {f1 f2 : String} {vs1 vs2 : List Val} {S1 S2 : Sto} {Q : QV} {X1 X2 : QX} (P : Val → Sto → Prop) (ha : c → ∀ Q : QV, (∀ v S, P v S → Q v S) → C1 f1 vs1 S1 Q X1) (hb : ¬ c → ∀ Q : QV, (∀ v S, P v S → Q v S) → C2 f2 vs2 S2 Q X2) (h : ∀ v S, P v S → Q v S) : if c then C1 f1 vs1 S1 Q X1 else C2 f2 vs2 S2 Q X2 := by
  split
  · exact ha (by assumption) Q h
  · exact hb (by assumption) Q h
theorem s_pen {n : Nat} {c : Int} {S : Sto} {Q : QV} {X : QX} (h : ∀ p S', S.length ≤ p → Pen S' p → Kp [] S S' → Q (.obj p) S') : callN G (n + 1) "_law_pen" [.int c] S Q X := by
  refine ⟨_, G__law_pen, rfl, ?_⟩
  simp [execs, exec, ev, evs, evA, evO, evo, evc, evI, startE, asgT, setAll, truV, binS, cmpS, cmpI, isS, isNon_non, isNon_int, isNon_bl, isNon_tup, isNon_str, isNon_obj, biS, metS, metT, isiS, tyN, tyOk, ixS, slS, putS, alloc, wipeE, seqOf, F__law_pen]
  exact h _ _ (Nat.le_refl _) ⟨_, _, getL_new, by omega⟩ (Kp.app _)
theorem s_cell {n k s : Nat} {ns : List Int} {S : Sto} {Q : QV} {X : QX} (hs : rdL S s = some (ns.map .int)) (h : ∀ c, Q (.int c) S) : callN G (n + 1) "_law_cell" [.obj s, .int (k : Int)] S Q X := by
  refine ⟨_, G__law_cell, rfl, ?_⟩
  by_cases hk : k < ns.length
  · have e : (ns.map Val.int)[k]? = some (.int ns[k]) := by rw [List.getElem?_map, List.getElem?_eq_getElem hk]; rfl
    simp [execs, exec, ev, evs, evA, evO, evo, evc, evI, startE, asgT, setAll, truV, binS, cmpS, cmpI, isS, isNon_non, isNon_int, isNon_bl, isNon_tup, isNon_str, isNon_obj, biS, metS, metT, isiS, tyN, tyOk, ixS, slS, putS, alloc, wipeE, seqOf, F__law_cell, hs, hk, at_ofNat e]
    exact h _
  · simp [execs, exec, ev, evs, evA, evO, evo, evc, evI, startE, asgT, setAll, truV, binS, cmpS, cmpI, isS, isNon_non, isNon_int, isNon_bl, isNon_tup, isNon_str, isNon_obj, biS, metS, metT, isiS, tyN, tyOk, ixS, slS, putS, alloc, wipeE, seqOf, F__law_cell, hs, hk]
    exact h _
theorem s_same {n : Nat} {a b : Val} {d : PyData} {S : Sto} {Q : QV} {X : QX} (ha : toD 60 S a = some d) (hb : toD 60 S b = some d) (ok : okD d) (h : Q (.bl true) S) : callN G (n + 1) "_law_same" [a, b] S Q X := by
  refine ⟨_, G__law_same, rfl, ?_⟩
  obtain ⟨o1, o2⟩ := ok
  have hi := isi_dict hb
  simp [execs, exec, ev, evs, evA, startE, truV, cmpS, biS, F__law_same, hi, ha, hb, o1, o2, eqS]
  exact h
theorem rg_places {m : Nat} {s : Int} (hs : 1 ≤ s) : rgN s ((m : Int) + 1) s = m / s.toNat := by
  unfold rgN
  obtain ⟨k, rfl⟩ : ∃ k : Nat, s = (k : Int) := ⟨s.toNat, by omega⟩
  have hk : 0 < k := by omega
  have h0 : (k : Int) > 0 := by omega
  rw [if_pos h0, Int.toNat_natCast]
  by_cases h : k ≤ m
  · have e : (k : Int) < (m : Int) + 1 := by omega
    rw [if_pos e]
    have e2 : (m : Int) + 1 - (k : Int) - 1 = ((m - k : Nat) : Int) := by omega
    rw [e2, ← Int.natCast_ediv]
    have e3 : m / k = (m - k) / k + 1 := Nat.div_eq_sub_div hk h
    rw [e3]
    generalize (m - k) / k = z
    omega
  · have e : ¬ (k : Int) < (m : Int) + 1 := by omega
    rw [if_neg e, Nat.div_eq_of_lt (by omega)]
    rfl
theorem sIx_lo {n : Nat} {s : Int} (hs : 1 ≤ s) : HT.sIx n 0 (some (s - 1)) = min (s.toNat - 1) n := by
  unfold HT.sIx
  simp
  omega
/-- every step-th place, by places -/
theorem cutSt_eq {α : Type} {l : List α} {s : Int} (hs : 1 ≤ s) : cutSt l (some (s - 1)) none s.toNat = (List.range (l.length / s.toNat)).filterMap fun m => l[(m + 1) * s.toNat - 1]? := by
  obtain ⟨k, rfl⟩ : ∃ k : Nat, s = (k : Int) := ⟨s.toNat, by omega⟩
  have hk : 0 < k := by omega
  unfold cutSt
  rw [sIx_lo hs, Int.toNat_natCast]
  have e1 : HT.sIx l.length l.length none = l.length := rfl
  rw [e1]
  by_cases h : k - 1 ≤ l.length
  · rw [Nat.min_eq_left h]
    have e2 : l.length - (k - 1) + (k - 1) = l.length := by omega
    rw [e2]
    congr 1
    funext m
    congr 1
    rw [Nat.add_mul, Nat.one_mul]
    omega
  · rw [Nat.min_eq_right (by omega), Nat.sub_self, Nat.zero_add, Nat.div_eq_of_lt (by omega), Nat.div_eq_of_lt (by omega)]
    rfl
theorem alongL_eq {l : List Int} {s : Int} (hs : 1 ≤ s) : alongL l s = (List.range (l.length / s.toNat)).filterMap fun m => l[(m + 1) * s.toNat - 1]? := cutSt_eq hs
def atD (l : List Int) (i : Int) : Int := (L2.atI l i).getD 0
theorem atD_of {l : List Int} {k : Nat} (h : k < l.length) : L2.atI (l.map Val.int) (k : Int) = some (.int (atD l k)) ∧ atD l k = l[k] := by
  have e : L2.atI l (k : Int) = some l[k] := at_ofNat (List.getElem?_eq_getElem h)
  have e2 : atD l k = l[k] := by unfold atD; rw [e]; rfl
  exact ⟨by rw [e2]; exact at_ofNat (by rw [List.getElem?_map, List.getElem?_eq_getElem h]; rfl), e2⟩
theorem place_lt {n m k : Nat} (hk : 0 < k) (h : m < n / k) : (m + 1) * k - 1 < n := by
  have h1 : (m + 1) * k ≤ n := Nat.le_trans (Nat.mul_le_mul_right k h) (Nat.div_mul_le_self _ _)
  have : 0 < (m + 1) * k := Nat.mul_pos (Nat.succ_pos _) hk
  omega
theorem filterMap_some {α β : Type} {f : α → Option β} {g : α → β} : ∀ {l : List α}, (∀ a ∈ l, f a = some (g a)) → l.filterMap f = l.map g
  | [], _ => rfl
  | a :: l, h => by rw [List.filterMap_cons, h a List.mem_cons_self, List.map_cons, filterMap_some fun b hb => h b (List.mem_cons_of_mem _ hb)]
/-- every step-th place, as a comprehension of places tells it -/
theorem along_places {l : List Int} {s : Int} (hs : 1 ≤ s) : (rgVc s s (rgN s ((l.length : Int) + 1) s)).map (fI fun i => atD l (i - 1)) = (alongL l s).map Val.int := by
  obtain ⟨k, rfl⟩ : ∃ k : Nat, s = (k : Int) := ⟨s.toNat, by omega⟩
  have hk : 0 < k := by omega
  rw [rg_places hs, alongL_eq hs, Int.toNat_natCast, filterMap_some (g := fun m => atD l ((((m + 1) * k - 1 : Nat)) : Int))]
  · unfold rgVc
    rw [List.map_map, List.map_map]
    apply List.map_congr_left
    intro m hm
    have := place_lt hk (List.mem_range.mp hm)
    have e : ((k : Int) + (m : Int) * k - 1) = (((m + 1) * k - 1 : Nat) : Int) := by
      have h2 : 0 < (m + 1) * k := Nat.mul_pos (Nat.succ_pos _) hk
      have e2 : (((m + 1) * k : Nat) : Int) = (k : Int) + (m : Int) * k := by rw [Nat.add_mul, Nat.one_mul]; push_cast; omega
      omega
    show Val.int (atD l ((k : Int) + (m : Int) * k - 1)) = Val.int (atD l (((m + 1) * k - 1 : Nat) : Int))
    rw [e]
  · intro m hm
    have h := place_lt hk (List.mem_range.mp hm)
    rw [List.getElem?_eq_getElem h, (atD_of h).2]
theorem place_mem {l : List Int} {s : Int} (hs : 1 ≤ s) {v : Val} (hv : v ∈ rgVc s s (rgN s ((l.length : Int) + 1) s)) : ∃ i : Int, v = .int i ∧ L2.atI (l.map Val.int) (i - 1) = some (.int (atD l (i - 1))) := by
  obtain ⟨k, rfl⟩ : ∃ k : Nat, s = (k : Int) := ⟨s.toNat, by omega⟩
  have hk : 0 < k := by omega
  rw [rg_places hs, Int.toNat_natCast] at hv
  unfold rgVc at hv
  obtain ⟨m, hm, rfl⟩ := List.mem_map.mp hv
  have h := place_lt hk (List.mem_range.mp hm)
  refine ⟨_, rfl, ?_⟩
  have e : ((k : Int) + (m : Int) * k - 1) = (((m + 1) * k - 1 : Nat) : Int) := by
    have h2 : 0 < (m + 1) * k := Nat.mul_pos (Nat.succ_pos _) hk
    have e2 : (((m + 1) * k : Nat) : Int) = (k : Int) + (m : Int) * k := by rw [Nat.add_mul, Nat.one_mul]; push_cast; omega
    omega
  rw [e]
  exact (atD_of h).1
/-- the cells that a law walks -/
theorem cells_ok {c0 : Int} {ns : List Int} {a b : Option Int} : ∀ v ∈ Val.int c0 :: cut (ns.map Val.int) a b, ∃ c, v = .int c := by
  intro v hv
  rcases List.mem_cons.mp hv with rfl | hv
  · exact ⟨_, rfl⟩
  · unfold cut at hv
    obtain ⟨c, _, e⟩ := List.mem_map.mp (List.mem_of_mem_drop (List.mem_of_mem_take hv))
    exact ⟨c, e.symm⟩
theorem cut_le {ns : List Int} {a b : Option Int} (h : ns.length ≤ 63) : (cut (ns.map Val.int) a b).length ≤ 63 := by
  unfold cut
  rw [List.length_take, List.length_drop, List.length_map]
  omega
theorem three {α : Type} {a b c u : α} {i : Int} (h : L2.atI [a, b, c] i = some u) : u = a ∨ u = b ∨ u = c := by
  unfold L2.atI at h
  cases q : L2.ixN [a, b, c].length i with
  | none => rw [q] at h; cases h
  | some j =>
    rw [q] at h
    have := List.mem_of_getElem? h
    simpa using this
theorem s_size {n : Nat} {p : Nat} {most : Int} {S : Sto} {Q : QV} {X : QX} (hp : Pen S p) (h1 : 3 ≤ most) (h : ∀ i S', 0 ≤ i → i ≤ most → Pen S' p → Kp [p] S S' → Q (.int i) S') : callN G (n + 2) "_law_size" [.obj p, .int most] S Q X := by
  refine ⟨_, G__law_size, rfl, ?_⟩
  simp only [execs, exec, ev, evs, evA, evO, evo, evc, evI, startE, asgT, setAll, truV, binS, cmpS, cmpI, isS, isNon_non, isNon_int, isNon_bl, isNon_tup, isNon_str, isNon_obj, biS, metS, metT, isiS, tyN, tyOk, ixS, slS, putS, alloc, wipeE, seqOf, F__law_size]
  simp
  refine s_draw hp (by decide) (by decide) fun few S1 a1 a2 p1 k1 => ?_
  refine s_draw p1 (by decide) (by decide) fun som S2 b1 b2 p2 k2 => ?_
  refine s_draw p2 (by decide) (by decide) fun gr S3 c1 c2 p3 k3 => ?_
  try simp
  refine s_pick [.int few, .int few, .int som, .int som, .int (most - gr)] p3 rfl (by simp) (by simp) fun ix v S4 e4 hix hv p4 k4 => ⟨_, e4, _, hix, ?_⟩
  obtain ⟨i, rfl, q⟩ : ∃ i : Int, v = .int i ∧ 0 ≤ i := by
    simp at hv
    rcases hv with rfl | rfl | rfl <;> exact ⟨_, rfl, by omega⟩
  try simp
  exact h _ _ (by omega) (by omega) p4 (((k1.trans k2).trans k3).trans k4)
/-! pairs of ints, and the least of them -/
def pV (p : Int × Int) : Val := .tup [.int p.1, .int p.2]
def pD (p : Int × Int) : PyData := .tuple [.int p.1, .int p.2]
theorem toD_pair {n : Nat} {S : Sto} {p : Int × Int} : toD (n + 2) S (pV p) = some (pD p) := toD_tup (l := [p.1, p.2])
theorem mapM_pairs {n : Nat} {S : Sto} : ∀ ps : List (Int × Int), (ps.map pV).mapM (toD (n + 2) S) = some (ps.map pD)
  | [] => rfl
  | p :: ps => by
    rw [List.map_cons, List.mapM_cons, toD_pair, mapM_pairs ps]
    rfl
def pLt (p q : Int × Int) : Bool := if p.1 = q.1 then decide (p.2 < q.2) else decide (p.1 < q.1)
theorem pD_lt (p q : Int × Int) : PySem.W.dataLt (pD p) (pD q) = pLt p q := PySem.W.DatumOrd.lt_eq p q
theorem alike_pairs (ps : List (Int × Int)) : PySem.W.AlikeAll (ps.map pD) := by
  refine ⟨fun x hx y hy => ?_, fun x hx => ?_⟩
  · obtain ⟨p, _, rfl⟩ := List.mem_map.mp hx
    obtain ⟨q, _, rfl⟩ := List.mem_map.mp hy
    exact PySem.W.DatumOrd.alike p q
  · obtain ⟨p, _, rfl⟩ := List.mem_map.mp hx
    intro e
    cases e
/-- the least pair so far -/
def minP (p : Int × Int) (ps : List (Int × Int)) : Int × Int := ps.foldl (fun a y => if pLt y a = true then y else a) p
theorem minD_pairs : ∀ (ps : List (Int × Int)) (p : Int × Int), PySem.W.minD (pD p) (ps.map pD) = pD (minP p ps)
  | [], _ => rfl
  | q :: ps, p => by
    have e : PySem.W.minD (pD p) ((q :: ps).map pD) = PySem.W.minD (if PySem.W.dataLt (pD q) (pD p) = true then pD q else pD p) (ps.map pD) := rfl
    rw [e, pD_lt]
    have e2 : minP p (q :: ps) = minP (if pLt q p = true then q else p) ps := rfl
    rw [e2, ← minD_pairs ps]
    congr 1
    split <;> rfl
/-- p is not above q -/
def pLe (p q : Int × Int) : Prop := p.1 < q.1 ∨ (p.1 = q.1 ∧ p.2 ≤ q.2)
theorem pLe_of {p q : Int × Int} (h : pLt q p = false) : pLe p q := by
  unfold pLt at h
  unfold pLe
  split at h <;> simp at h <;> omega
theorem pLe_of2 {p q : Int × Int} (h : pLt q p = true) : pLe q p := by
  unfold pLt at h
  unfold pLe
  split at h <;> simp at h <;> omega
theorem pLe_trans {p q r : Int × Int} (a : pLe p q) (b : pLe q r) : pLe p r := by unfold pLe at *; omega
theorem pLe_refl (p : Int × Int) : pLe p p := by unfold pLe; omega
theorem minP_ok : ∀ (ps : List (Int × Int)) (p : Int × Int), minP p ps ∈ p :: ps ∧ ∀ q ∈ p :: ps, pLe (minP p ps) q
  | [], p => ⟨List.mem_cons_self, fun q hq => by simp at hq; rw [hq]; exact pLe_refl p⟩
  | q :: ps, p => by
    have e2 : minP p (q :: ps) = minP (if pLt q p = true then q else p) ps := rfl
    rw [e2]
    cases h : pLt q p with
    | true =>
      rw [if_pos rfl]
      obtain ⟨h1, h2⟩ := minP_ok ps q
      refine ⟨List.mem_cons_of_mem _ h1, fun z hz => ?_⟩
      rcases List.mem_cons.mp hz with rfl | hz
      · exact pLe_trans (h2 q List.mem_cons_self) (pLe_of2 h)
      · exact h2 z hz
    | false =>
      rw [if_neg (by decide)]
      obtain ⟨h1, h2⟩ := minP_ok ps p
      refine ⟨?_, fun z hz => ?_⟩
      · rcases List.mem_cons.mp h1 with q1 | q1
        · rw [q1]; exact List.mem_cons_self
        · exact List.mem_cons_of_mem _ (List.mem_cons_of_mem _ q1)
      · rcases List.mem_cons.mp hz with rfl | hz
        · exact h2 z List.mem_cons_self
        · rcases List.mem_cons.mp hz with rfl | hz
          · exact pLe_trans (h2 p List.mem_cons_self) (pLe_of h)
          · exact h2 z (List.mem_cons_of_mem _ hz)
theorem pLe_eq {p q : Int × Int} (a : pLe p q) (b : pLe q p) : p = q := by
  unfold pLe at *
  refine Prod.ext ?_ ?_ <;> omega
/-- min(a list of pairs) -/
theorem s_minp {ps : List (Int × Int)} {n : Nat} {S : Sto} {Q : QV} (hn : rdL S n = some (ps.map pV)) (hne : ps ≠ []) (h : ∀ m, m ∈ ps → (∀ q ∈ ps, pLe m q) → Q (pV m) S) : biS .min [.obj n] S Q := by
  obtain ⟨p, r, rfl⟩ := List.exists_cons_of_ne_nil hne
  refine .inr ⟨_, pD p, r.map pD, hn, mapM_pairs (p :: r), alike_pairs (p :: r), fun v hv e => ?_⟩
  obtain ⟨q, hq, rfl⟩ := List.mem_map.mp hv
  rw [toD_pair, minD_pairs] at e
  obtain ⟨h1, h2⟩ := minP_ok r p
  have e2 : q = minP p r := by
    have := Option.some.inj e
    unfold pD at this
    simp only [PyData.tuple.injEq, List.cons.injEq, PyData.int.injEq, and_true] at this
    exact Prod.ext this.1 this.2
  rw [e2]
  exact h _ h1 h2
theorem minp_inr {ps : List (Int × Int)} {S : Sto} {R : Val → Prop} (hne : ps ≠ []) (h : ∀ m, m ∈ ps → (∀ q ∈ ps, pLe m q) → R (pV m)) : ∃ d ds, (ps.map pV).mapM (toD 59 S) = some (d :: ds) ∧ PySem.W.AlikeAll (d :: ds) ∧ ∀ v, v ∈ ps.map pV → toD 59 S v = some (PySem.W.minD d ds) → R v := by
  obtain ⟨p, r, rfl⟩ := List.exists_cons_of_ne_nil hne
  refine ⟨pD p, r.map pD, mapM_pairs (p :: r), alike_pairs (p :: r), fun v hv e => ?_⟩
  obtain ⟨q, hq, rfl⟩ := List.mem_map.mp hv
  rw [toD_pair, minD_pairs] at e
  obtain ⟨h1, h2⟩ := minP_ok r p
  have e2 : q = minP p r := by
    have := Option.some.inj e
    unfold pD at this
    simp only [PyData.tuple.injEq, List.cons.injEq, PyData.int.injEq, and_true] at this
    exact Prod.ext this.1 this.2
  rw [e2]
  exact h _ h1 h2
/-! data that repr takes: small ints, weight, depth -/
structure Nice (w dp : Nat) (d : PyData) : Prop where
  sh : d.showable = true
  cl : d.canLay0 = true
  is : d.intsShort 13 = true
  wt : d.weight ≤ w
  dpt : d.depth ≤ dp
theorem nice_int {i : Int} (h : i.natAbs < 10 ^ 12) : Nice 41 0 (.int i) := by
  have hl : i.natAbs.log2 < 40 ∨ i = 0 := by
    by_cases h0 : i.natAbs = 0
    · exact .inr (by omega)
    · left
      rw [Nat.log2_lt h0]
      exact Nat.lt_trans h (by decide)
  refine ⟨?_, by simp [PyData.canLay0], ?_, ?_, by simp [PyData.depth]⟩
  · simp only [PyData.showable, decide_eq_true_eq]
    rcases hl with q | rfl
    · omega
    · decide
  · simp only [PyData.intsShort, decide_eq_true_eq]
    exact PyData.shown_int_le h
  · simp only [PyData.weight]
    rcases hl with q | rfl
    · split <;> omega
    · simp
theorem nice_non : Nice 0 0 .none := ⟨by simp [PyData.showable], by simp [PyData.canLay0], by simp [PyData.intsShort], by simp [PyData.weight], by simp [PyData.depth]⟩
theorem nice_bl {b : Bool} : Nice 0 0 (.bool b) := ⟨by simp [PyData.showable], by simp [PyData.canLay0], by simp [PyData.intsShort], by simp [PyData.weight], by simp [PyData.depth]⟩
theorem Nice.mono {w w' dp dp' : Nat} {d : PyData} (h : Nice w dp d) (h1 : w ≤ w') (h2 : dp ≤ dp') : Nice w' dp' d := ⟨h.sh, h.cl, h.is, Nat.le_trans h.wt h1, Nat.le_trans h.dpt h2⟩
theorem nice_all {w dp : Nat} : ∀ {ds : List PyData}, (∀ d ∈ ds, Nice w dp d) → PyData.showableAll ds = true ∧ PyData.canLayAll0 ds = true ∧ PyData.intsShortAll 13 ds = true ∧ PyData.weightAll ds ≤ ds.length * (w + 1) ∧ PyData.depthAll ds ≤ dp
  | [], _ => ⟨rfl, rfl, rfl, Nat.zero_le _, Nat.zero_le _⟩
  | d :: ds, h => by
    obtain ⟨a1, a2, a3, a4, a5⟩ := nice_all (ds := ds) fun x hx => h x (List.mem_cons_of_mem _ hx)
    have hd := h d List.mem_cons_self
    have h1 := hd.wt
    have h2 := hd.dpt
    refine ⟨by simp [PyData.showableAll, hd.sh, a1], by simp [PyData.canLayAll0, hd.cl, a2], by simp [PyData.intsShortAll, hd.is, a3], ?_, ?_⟩
    · simp only [PyData.weightAll, List.length_cons]
      rw [Nat.add_mul, Nat.one_mul]
      omega
    · simp only [PyData.depthAll]
      omega
theorem nice_list {w dp m : Nat} {ds : List PyData} (h : ∀ d ∈ ds, Nice w dp d) (hm : ds.length ≤ m) : Nice (m * (w + 1)) (dp + 1) (.list ds) := by
  obtain ⟨a1, a2, a3, a4, a5⟩ := nice_all h
  exact ⟨by simpa [PyData.showable] using a1, by simpa [PyData.canLay0] using a2, by simpa [PyData.intsShort] using a3, by simpa [PyData.weight] using Nat.le_trans a4 (Nat.mul_le_mul_right _ hm), by simpa [PyData.depth] using a5⟩
theorem nice_tup {w dp m : Nat} {ds : List PyData} (h : ∀ d ∈ ds, Nice w dp d) (hm : ds.length ≤ m) : Nice (m * (w + 1)) (dp + 1) (.tuple ds) := by
  obtain ⟨a1, a2, a3, a4, a5⟩ := nice_all h
  exact ⟨by simpa [PyData.showable] using a1, by simpa [PyData.canLay0] using a2, by simpa [PyData.intsShort] using a3, by simpa [PyData.weight] using Nat.le_trans a4 (Nat.mul_le_mul_right _ hm), by simpa [PyData.depth] using a5⟩
theorem okD_nice {w dp : Nat} {d : PyData} (h : Nice w dp d) (h1 : w ≤ 1048576) (h2 : dp ≤ 64) : okD d := by
  have e : (2 : Nat) ^ 20 = 1048576 := by decide
  have hl : PyData.layable0 d = true := by
    unfold PyData.layable0
    have := h.wt
    have := h.dpt
    rw [e]
    simp only [h.cl, Bool.true_and, Bool.and_eq_true, decide_eq_true_eq]
    omega
  have := PyData.shown_le_of_layable0 hl h.is
  exact ⟨h.sh, by omega⟩
theorem mapM_g {n : Nat} {S : Sto} {α : Type} {g : α → Val} {d : α → PyData} (h : ∀ a, toD n S (g a) = some (d a)) : ∀ l : List α, (l.map g).mapM (toD n S) = some (l.map d)
  | [] => rfl
  | a :: l => by
    rw [List.map_cons, List.mapM_cons, h, mapM_g h l]
    rfl
theorem toD_listOf {n : Nat} {S : Sto} {α : Type} {g : α → Val} {d : α → PyData} (h : ∀ a, toD n S (g a) = some (d a)) {k : Nat} {l : List α} (hk : rdL S k = some (l.map g)) : toD (n + 1) S (.obj k) = some (.list (l.map d)) := by
  show (match rdL S k with | some l => (l.mapM (toD n S)).map PyData.list | none => none) = _
  rw [hk]
  show ((l.map g).mapM (toD n S)).map PyData.list = _
  rw [mapM_g h]
  rfl
theorem toD_tupOf {n : Nat} {S : Sto} {α : Type} {g : α → Val} {d : α → PyData} (h : ∀ a, toD n S (g a) = some (d a)) {l : List α} : toD (n + 1) S (.tup (l.map g)) = some (.tuple (l.map d)) := by
  show ((l.map g).mapM (toD n S)).map PyData.tuple = _
  rw [mapM_g h]
  rfl
/-! breaches: the least place, of it the least step -/
/-- the sum of the first m signs along s -/
def sumAt (l : List Int) (s : Int) (m : Nat) : Int := ((alongL l s).take m).sum
def Bp (l t : List Int) (b : Int) (q : Int × Int) : Prop := q.2 ∈ t ∧ ∃ m : Nat, m < (alongL l q.2).length ∧ q.1 = q.2 * ((m : Int) + 1) ∧ b < (sumAt l q.2 (m + 1)).natAbs
def IsBr (l t : List Int) (b : Int) : Option (Int × Int) → Prop
  | none => ∀ q, ¬ Bp l t b q
  | some q => Bp l t b q ∧ ∀ q', Bp l t b q' → pLe q q'
def brV : Option (Int × Int) → Val
  | none => .non
  | some q => pV q
def brD : Option (Int × Int) → PyData
  | none => .none
  | some q => pD q
theorem IsBr.uniq {l t : List Int} {b : Int} : ∀ {o o' : Option (Int × Int)}, IsBr l t b o → IsBr l t b o' → o = o'
  | none, none, _, _ => rfl
  | none, some q, h, h' => absurd h'.1 (h q)
  | some q, none, h, h' => absurd h.1 (h' q)
  | some q, some q', h, h' => by rw [pLe_eq (h.2 q' h'.1) (h'.2 q h.1)]
theorem toD_brV {S : Sto} : ∀ o : Option (Int × Int), toD 60 S (brV o) = some (brD o)
  | none => rfl
  | some q => toD_pair
theorem isNon_brV (o : Option (Int × Int)) : isNon (brV o) = o.isNone := by cases o <;> rfl
theorem psums_get : ∀ (l : List Int) (t : Int) (m : Nat), m < l.length → (psums t l)[m]? = some (t + (l.take (m + 1)).sum)
  | [], t, m, h => by simp at h
  | a :: l, t, 0, _ => by simp [psums]
  | a :: l, t, m + 1, h => by
    rw [psums, List.getElem?_cons_succ, psums_get l (t + a) m (by simpa using h), List.take_succ_cons, List.sum_cons]
    congr 1
    omega
/-- the breaches along one step -/
def brs (l : List Int) (b s : Int) : List (Int × Int) := (psums 0 (alongL l s)).zipIdx.filterMap fun p => if b < (p.1.natAbs : Int) then some (s * ((p.2 : Int) + 1), s) else none
theorem brs_len (l : List Int) (b : Int) {s : Int} (h : 1 ≤ s) : (brs l b s).length ≤ l.length := by
  refine Nat.le_trans (List.length_filterMap_le _ _) ?_
  rw [List.length_zipIdx, psums_len]
  exact alongL_len l h
theorem brs_mem {l : List Int} {b s : Int} {q : Int × Int} : q ∈ brs l b s ↔ q.2 = s ∧ ∃ m : Nat, m < (alongL l s).length ∧ q.1 = s * ((m : Int) + 1) ∧ b < (sumAt l s (m + 1)).natAbs := by
  unfold brs
  rw [List.mem_filterMap]
  constructor
  · rintro ⟨⟨x, m⟩, h1, h2⟩
    have hm := List.mem_zipIdx_iff_getElem?.mp h1
    have hlt : m < (alongL l s).length := by
      have := (List.getElem?_eq_some_iff.mp hm).1
      rwa [psums_len] at this
    rw [psums_get _ _ _ hlt] at hm
    have hx : x = sumAt l s (m + 1) := by
      have := Option.some.inj hm
      unfold sumAt
      omega
    split at h2
    · rename_i hb
      have := Option.some.inj h2
      subst this
      exact ⟨rfl, m, hlt, rfl, by rw [← hx]; exact hb⟩
    · cases h2
  · rintro ⟨rfl, m, hlt, h1, h2⟩
    refine ⟨(sumAt l q.2 (m + 1), m), List.mem_zipIdx_iff_getElem?.mpr ?_, ?_⟩
    · show (psums 0 (alongL l q.2))[m]? = some (sumAt l q.2 (m + 1))
      rw [psums_get _ _ _ hlt]
      unfold sumAt
      congr 1
      omega
    · show (if b < ((sumAt l q.2 (m + 1)).natAbs : Int) then some (q.2 * ((m : Int) + 1), q.2) else none) = some q
      rw [if_pos h2, ← h1]
theorem brs_Bp {l t : List Int} {b : Int} (q : Int × Int) : q ∈ t.flatMap (brs l b) ↔ Bp l t b q := by
  rw [List.mem_flatMap]
  constructor
  · rintro ⟨s, hs, hq⟩
    obtain ⟨rfl, hq⟩ := brs_mem.mp hq
    exact ⟨hs, hq⟩
  · rintro ⟨hs, hq⟩
    exact ⟨q.2, hs, brs_mem.mpr ⟨rfl, hq⟩⟩
/-- the breach -/
def brO (l t : List Int) (b : Int) : Option (Int × Int) := match t.flatMap (brs l b) with
  | [] => none
  | p :: ps => some (minP p ps)
theorem IsBr_brO (l t : List Int) (b : Int) : IsBr l t b (brO l t b) := by
  have h := brs_Bp (l := l) (t := t) (b := b)
  unfold brO
  cases e : t.flatMap (brs l b) with
  | nil => exact fun q hq => absurd ((h q).mpr hq) (by rw [e]; simp)
  | cons p ps =>
    rw [e] at h
    obtain ⟨h1, h2⟩ := minP_ok ps p
    exact ⟨(h _).mp h1, fun q hq => h2 q ((h q).mpr hq)⟩
theorem IsBr.eq {l t : List Int} {b : Int} {o : Option (Int × Int)} (h : IsBr l t b o) : o = brO l t b := h.uniq (IsBr_brO l t b)
theorem toD_pairs {n : Nat} {S : Sto} {k : Nat} {ps : List (Int × Int)} (h : rdL S k = some (ps.map pV)) : toD (n + 3) S (.obj k) = some (.list (ps.map pD)) := by
  show (match rdL S k with | some l => (l.mapM (toD (n + 2) S)).map PyData.list | none => none) = _
  rw [h]
  show ((ps.map pV).mapM (toD (n + 2) S)).map PyData.list = _
  rw [mapM_pairs]
  rfl
theorem sIx_hi {n d : Nat} {p : Int} (hp : 0 ≤ p) : HT.sIx n d (some p) = min p.toNat n := by
  unfold HT.sIx
  simp
  omega
theorem alongL_map {l : List Int} {s : Int} (hs : 1 ≤ s) : alongL l s = (List.range (l.length / s.toNat)).map fun m : Nat => atD l (((m + 1) * s.toNat - 1 : Nat) : Int) := by
  rw [alongL_eq hs]
  refine filterMap_some fun m hm => ?_
  have h := place_lt (by omega : 0 < s.toNat) (List.mem_range.mp hm)
  rw [List.getElem?_eq_getElem h, (atD_of h).2]
theorem alongL_length {l : List Int} {s : Int} (hs : 1 ≤ s) : (alongL l s).length = l.length / s.toNat := by rw [alongL_map hs, List.length_map, List.length_range]
/-- the first signs along a step, cut at a place of it -/
theorem along1 (l : List Int) : alongL l 1 = l := by
  rw [alongL_map (by decide)]
  apply List.ext_getElem
  · simp
  · intro i h1 h2
    simp
    have := (atD_of h2).2
    have e : ((i : Nat) : Int) = (i : Int) := rfl
    simpa using this
theorem cut_place {l : List Int} {s : Int} {m : Nat} (hs : 1 ≤ s) (hp : s * ((m : Int) + 1) ≤ l.length) : cutSt l (some (s - 1)) (some (s * ((m : Int) + 1))) s.toNat = (alongL l s).take (m + 1) := by
  obtain ⟨k, rfl⟩ : ∃ k : Nat, s = (k : Int) := ⟨s.toNat, by omega⟩
  have hk : 0 < k := by omega
  have hpn : (k : Int) * ((m : Int) + 1) = ((k * (m + 1) : Nat) : Int) := by push_cast; rfl
  rw [hpn] at hp ⊢
  have hp' : k * (m + 1) ≤ l.length := by omega
  have hge : k ≤ k * (m + 1) := Nat.le_mul_of_pos_right k (Nat.succ_pos m)
  rw [alongL_map hs]
  unfold cutSt
  rw [sIx_lo hs, sIx_hi (by omega), Int.toNat_natCast, Int.toNat_natCast, Nat.min_eq_left (by omega), Nat.min_eq_left hp']
  have e : k * (m + 1) - (k - 1) + (k - 1) = k * (m + 1) := by omega
  rw [e, Nat.mul_div_cancel_left _ hk, ← List.map_take, List.take_range]
  have hq : m + 1 ≤ l.length / k := (Nat.le_div_iff_mul_le hk).mpr (by rw [Nat.mul_comm]; exact hp')
  rw [Nat.min_eq_left hq]
  refine filterMap_some fun j hj => ?_
  have h := place_lt hk (Nat.lt_of_lt_of_le (List.mem_range.mp hj) hq)
  have e2 : k - 1 + j * k = (j + 1) * k - 1 := by rw [Nat.add_mul, Nat.one_mul]; omega
  rw [e2, List.getElem?_eq_getElem h, (atD_of h).2]
theorem place_of {l : List Int} {s p : Int} (hs : 1 ≤ s) (h1 : 1 ≤ p) (h2 : p ≤ l.length) (h : p % s = 0) : ∃ m : Nat, p = s * ((m : Int) + 1) ∧ m < (alongL l s).length := by
  obtain ⟨c, rfl⟩ := Int.dvd_of_emod_eq_zero h
  have hc : 1 ≤ c := by
    by_cases q : 1 ≤ c
    · exact q
    · have : s * c ≤ s * 0 := Int.mul_le_mul_of_nonneg_left (by omega) (by omega)
      omega
  refine ⟨c.toNat - 1, ?_, ?_⟩
  · congr 1
    omega
  · rw [alongL_length hs]
    obtain ⟨k, rfl⟩ : ∃ k : Nat, s = (k : Int) := ⟨s.toNat, by omega⟩
    obtain ⟨d, rfl⟩ : ∃ d : Nat, c = (d : Int) := ⟨c.toNat, by omega⟩
    rw [Int.toNat_natCast, Int.toNat_natCast]
    have : k * d ≤ l.length := by
      have : ((k * d : Nat) : Int) = (k : Int) * (d : Int) := by push_cast; rfl
      omega
    have : d ≤ l.length / k := (Nat.le_div_iff_mul_le (by omega)).mpr (by rw [Nat.mul_comm]; exact this)
    omega
theorem place_in {l : List Int} {s : Int} {m : Nat} (hs : 1 ≤ s) (h : m < (alongL l s).length) : 1 ≤ s * ((m : Int) + 1) ∧ s * ((m : Int) + 1) ≤ l.length ∧ s * ((m : Int) + 1) % s = 0 := by
  rw [alongL_length hs] at h
  obtain ⟨k, rfl⟩ : ∃ k : Nat, s = (k : Int) := ⟨s.toNat, by omega⟩
  rw [Int.toNat_natCast] at h
  have hk : 0 < k := by omega
  have hpn : (k : Int) * ((m : Int) + 1) = ((k * (m + 1) : Nat) : Int) := by push_cast; rfl
  have h1 : (m + 1) * k ≤ l.length := Nat.le_trans (Nat.mul_le_mul_right k h) (Nat.div_mul_le_self _ _)
  have h2 : 0 < k * (m + 1) := Nat.mul_pos hk (Nat.succ_pos _)
  rw [Nat.mul_comm] at h1
  refine ⟨by omega, by omega, Int.mul_emod_right _ _⟩
theorem Bp_place {l t : List Int} {b : Int} {q : Int × Int} (ht : ∀ s ∈ t, 1 ≤ s) (h : Bp l t b q) : 1 ≤ q.1 ∧ q.1 ≤ l.length ∧ q.1 % q.2 = 0 ∧ b < ((cutSt l (some (q.2 - 1)) (some q.1) q.2.toNat).sum).natAbs := by
  obtain ⟨h1, m, h2, h3, h4⟩ := h
  obtain ⟨a1, a2, a3⟩ := place_in (ht _ h1) h2
  rw [h3]
  refine ⟨a1, a2, a3, ?_⟩
  rw [cut_place (ht _ h1) a2]
  exact h4
theorem Bp_of {l t : List Int} {b : Int} {p s : Int} (hs : 1 ≤ s) (hm : s ∈ t) (h1 : 1 ≤ p) (h2 : p ≤ l.length) (h3 : p % s = 0) (h4 : b < ((cutSt l (some (s - 1)) (some p) s.toNat).sum).natAbs) : Bp l t b (p, s) := by
  obtain ⟨m, rfl, hlt⟩ := place_of hs h1 h2 h3
  rw [cut_place hs h2] at h4
  exact ⟨hm, m, hlt, rfl, h4⟩
theorem cut_map (l : List Int) (lo hi : Option Int) : cut (l.map Val.int) lo hi = (cut l lo hi).map .int := by
  unfold cut
  rw [List.length_map, List.map_take, List.map_drop]
theorem cut_take {α : Type} {l : List α} {k : Int} (h1 : 0 ≤ k) (h2 : k ≤ l.length) : cut l none (some k) = l.take k.toNat := by
  unfold cut
  have e1 : HT.sIx l.length 0 none = 0 := rfl
  rw [e1, sIx_hi h1, List.drop_zero, Nat.sub_zero, Nat.min_eq_left (by omega)]
/-- how many signs are kept -/
def keptN (l t : List Int) (b : Int) : Nat := match brO l t b with
  | none => l.length
  | some q => (q.1 - 1).toNat
theorem okD_br {l t : List Int} {b : Int} (hl : l.length ≤ 100) (ht : ∀ s ∈ t, 1 ≤ s ∧ s ≤ 100) : ∀ {o : Option (Int × Int)}, IsBr l t b o → okD (brD o)
  | none, _ => ⟨by decide, by decide⟩
  | some q, h => by
    have h1 := Bp_place (fun s hs => (ht s hs).1) h.1
    have h2 := ht _ h.1.1
    exact (okD_ints (l := [q.1, q.2]) (fun i hi => by simp at hi; rcases hi with rfl | rfl <;> omega) (by simp)).2
/-! marks -/
def mk : Option Int → Val
  | none => .non
  | some i => .int i
structure Mks (ml : List (Option Int)) : Prop where
  len : ml.length ≤ 40
  sg : ∀ x ∈ ml, x = none ∨ x = some 1 ∨ x = some (-1)
/-- the signs up to the first place not known -/
def known : List (Option Int) → List Int
  | some i :: r => i :: known r
  | _ => []
theorem known_len : ∀ ml : List (Option Int), (known ml).length ≤ ml.length
  | [] => Nat.le_refl _
  | none :: r => Nat.zero_le _
  | some i :: r => by have := known_len r; simp [known]; omega
/-- the marks along a step -/
def alm (ml : List (Option Int)) (s : Int) : List (Option Int) := cutSt ml (some (s - 1)) none s.toNat
theorem cutSt_mapf {α β : Type} (f : α → β) (l : List α) (lo hi : Option Int) (st : Nat) : cutSt (l.map f) lo hi st = (cutSt l lo hi st).map f := by
  unfold cutSt
  rw [List.length_map, List.map_filterMap]
  congr 1
  funext m
  rw [List.getElem?_map]
theorem cut_mapf {α β : Type} (f : α → β) (l : List α) (lo hi : Option Int) : cut (l.map f) lo hi = (cut l lo hi).map f := by
  unfold cut
  rw [List.length_map, List.map_take, List.map_drop]
theorem mk_flat (xs : List (Option Int)) : (xs.map mk).all flat = true := by
  rw [List.all_eq_true]
  intro v hv
  obtain ⟨x, _, rfl⟩ := List.mem_map.mp hv
  cases x <;> rfl
theorem mk_flat2 (x : Option Int) : flat (mk x) = true := by cases x <;> rfl
theorem flatN : flat .non = true := rfl
theorem anyN {xs : List (Option Int)} : xs.any Option.isNone = false ↔ none ∉ xs := by
  rw [List.any_eq_false]
  constructor
  · intro h hn
    exact h none hn rfl
  · intro h x hx
    cases x with
    | none => exact absurd hx h
    | some i => simp
theorem mk_in : ∀ xs : List (Option Int), inb .non (xs.map mk) = xs.any Option.isNone
  | [] => rfl
  | x :: xs => by
    have := mk_in xs
    unfold inb at this ⊢
    rw [List.map_cons, List.any_cons, List.any_cons, this]
    cases x <;> rfl
theorem mk_ints : ∀ {xs : List (Option Int)}, xs.any Option.isNone = false → intsOf (xs.map mk) = some (known xs)
  | [], _ => rfl
  | none :: xs, h => by simp at h
  | some i :: xs, h => by
    have := mk_ints (xs := xs) (by simpa using h)
    rw [List.map_cons, mk, intsOf, this]
    rfl
theorem s_are_marks {n : Nat} {ml : List (Option Int)} {S : Sto} {Q : QV} {X : QX} (hm : Mks ml) (h : ∀ S', Kp [] S S' → Q (.bl true) S') : callN G (n + 3) "are_marks" [.tup (ml.map mk)] S Q X := by
  refine ⟨_, G_are_marks, rfl, ?_⟩
  have hl := hm.len
  have hn : ¬ (40 : Int) < ml.length := by omega
  simp [execs, exec, ev, evs, evA, evO, evo, evc, evI, startE, asgT, setAll, truV, binS, cmpS, cmpI, isS, isNon_non, isNon_int, isNon_bl, isNon_tup, isNon_str, isNon_obj, biS, metS, metT, isiS, tyN, tyOk, ixS, slS, putS, alloc, wipeE, seqOf, F_are_marks, hn]
  refine lcL_map (fun _ => some (.bl true)) trivial _ _ (fun v hv K' hk => ?_) ?_
  · obtain ⟨x, hx, rfl⟩ := List.mem_map.mp hv
    rcases hm.sg x hx with rfl | rfl | rfl
    · simp [mk, isNon]
      exact hk
    · simp [mk, isNon]
      exact s_is_sign (by simpa [isSg] using hk)
    · simp [mk, isNon]
      exact s_is_sign (by simpa [isSg] using hk)
  · obtain ⟨bs, h1, h2⟩ := bls_true (m := [] ++ (ml.map mk).filterMap fun _ => some (Val.bl true)) fun v hv => by
      rw [List.nil_append] at hv
      obtain ⟨_, _, h⟩ := List.mem_filterMap.mp hv
      exact (Option.some.inj h).symm
    refine ⟨_, getL_rdL getL_new, bs, by simpa using h1, ?_⟩
    rw [h2]
    exact h _ (Kp.app _)
theorem s_need_marks {n : Nat} {ml : List (Option Int)} {S : Sto} {Q : QV} {X : QX} (hm : Mks ml) (h : ∀ S', Kp [] S S' → Q .non S') : callN G (n + 4) "need_marks" [.tup (ml.map mk)] S Q X := by
  refine ⟨_, G_need_marks, rfl, ?_⟩
  simp [execs, exec, ev, evs, evA, evO, evo, evc, evI, startE, asgT, setAll, truV, binS, cmpS, cmpI, isS, isNon_non, isNon_int, isNon_bl, isNon_tup, isNon_str, isNon_obj, biS, metS, metT, isiS, tyN, tyOk, ixS, slS, putS, alloc, wipeE, seqOf, F_need_marks]
  exact s_are_marks hm fun S' k => by simpa using h S' k
theorem alm_length {ml : List (Option Int)} {s : Int} (hs : 1 ≤ s) : (alm ml s).length = ml.length / s.toNat := by
  have h := alongL_length (l := ml.map fun _ => (0 : Int)) hs
  unfold alongL at h
  rw [cutSt_mapf, List.length_map, List.length_map] at h
  exact h
/-- whether the first marks along a step are signs that come beyond -/
def brk (ml : List (Option Int)) (b s : Int) (many : Nat) : Bool := decide (many ≤ (known (alm ml s)).length) && decide (b < ((known (alm ml s)).take many).sum.natAbs)
theorem known_take : ∀ (xs : List (Option Int)) (m : Nat), (xs.take m).any Option.isNone = false ∧ m ≤ xs.length → known (xs.take m) = (known xs).take m ∧ m ≤ (known xs).length
  | xs, 0, _ => by simp [known]
  | [], m + 1, h => by simp at h
  | none :: xs, m + 1, h => by simp at h
  | some i :: xs, m + 1, h => by
    obtain ⟨a, b⟩ := known_take xs m ⟨by simpa using h.1, by simpa using h.2⟩
    simp [known, a]
    omega
theorem known_any : ∀ (xs : List (Option Int)) (m : Nat), m ≤ (known xs).length → (xs.take m).any Option.isNone = false
  | xs, 0, _ => by simp
  | [], m + 1, h => by simp [known] at h
  | none :: xs, m + 1, h => by simp [known] at h
  | some i :: xs, m + 1, h => by
    have := known_any xs m (by simpa [known] using h)
    simpa using this
theorem findSome_congr {α β : Type} {f g : α → Option β} : ∀ {l : List α}, (∀ a ∈ l, f a = g a) → l.findSome? f = l.findSome? g
  | [], _ => rfl
  | a :: l, h => by rw [List.findSome?_cons, List.findSome?_cons, h a List.mem_cons_self, findSome_congr fun b hb => h b (List.mem_cons_of_mem _ hb)]
def brkF (ml : List (Option Int)) (b s : Int) : Val → Option Val
  | .int i => if brk ml b s i.toNat = true then some (.tup [.int s, .int i]) else none
  | _ => none
def brkI (ml : List (Option Int)) (b s : Int) : Option Val := (Mp.rgV 1 ((ml.length : Int) / s).toNat).findSome? (brkF ml b s)
def brkS (ml : List (Option Int)) (b : Int) : Val → Option Val
  | .int s => brkI ml b s
  | _ => none
/-- the first broken marks, or None -/
def brkV (ml : List (Option Int)) (t : List Int) (b : Int) : Val := match (t.map Val.int).findSome? (brkS ml b) with
  | some v => v
  | none => .non
theorem alm_N {ml : List (Option Int)} {s : Int} (hs : 1 ≤ s) : (alm ml s).length = ((ml.length : Int) / s).toNat := by
  rw [alm_length hs]
  obtain ⟨k, rfl⟩ : ∃ k : Nat, s = (k : Int) := ⟨s.toNat, by omega⟩
  rw [Int.toNat_natCast, ← Int.natCast_ediv, Int.toNat_natCast]
theorem alm_map {ml : List (Option Int)} {s : Int} (hs : 1 ≤ s) : alm ml s = (List.range (ml.length / s.toNat)).map fun m : Nat => (ml[(m + 1) * s.toNat - 1]?).getD none := by
  unfold alm
  rw [cutSt_eq hs]
  refine filterMap_some fun m hm => ?_
  have h := place_lt (by omega : 0 < s.toNat) (List.mem_range.mp hm)
  rw [List.getElem?_eq_getElem h]
  rfl
theorem alm_drop {ml : List (Option Int)} {s : Int} {j : Nat} (hs : 1 ≤ s) (hj : j < ml.length / s.toNat) : (alm ml s).drop j = (ml[(j + 1) * s.toNat - 1]?).getD none :: (alm ml s).drop (j + 1) := by
  rw [alm_map hs, List.drop_eq_getElem_cons (by simpa using hj)]
  simp
theorem at_mk {ml : List (Option Int)} {k j : Nat} (hk : 0 < k) (hj : j < ml.length / k) : L2.atI (ml.map mk) ((k : Int) + (j : Int) * k - 1) = some (mk ((ml[(j + 1) * k - 1]?).getD none)) := by
  have hlt := place_lt hk hj
  have e : ((k : Int) + (j : Int) * k - 1) = (((j + 1) * k - 1 : Nat) : Int) := by
    have : 0 < (j + 1) * k := Nat.mul_pos (Nat.succ_pos _) hk
    have e2 : (((j + 1) * k : Nat) : Int) = (k : Int) + (j : Int) * k := by rw [Nat.add_mul, Nat.one_mul]; push_cast; omega
    omega
  rw [e]
  refine at_ofNat ?_
  rw [List.getElem?_map, List.getElem?_eq_getElem hlt]
  rfl
def brkL (b s : Int) : Val → Option Val
  | .tup [.int a, .int x] => if b < (x.natAbs : Int) then some (.tup [.int s, .int (a + 1)]) else none
  | _ => none
theorem brkI_eq {ml : List (Option Int)} {b s : Int} (hs : 1 ≤ s) : (enumV 0 ((psums 0 (known (alm ml s))).map Val.int)).findSome? (brkL b s) = brkI ml b s := by
  have hz : (psums 0 (known (alm ml s))).zipIdx = (List.range (known (alm ml s)).length).map fun m => (((known (alm ml s)).take (m + 1)).sum, m) := by
    apply List.ext_getElem
    · simp [psums_len]
    · intro i h1 h2
      simp at h2
      have := psums_get (known (alm ml s)) 0 i (by omega)
      rw [List.getElem?_eq_some_iff] at this
      obtain ⟨_, this⟩ := this
      simp [this]
  unfold brkI
  rw [enumV_ints, hz, ← alm_N hs]
  have hle := known_len (alm ml s)
  obtain ⟨d, hd⟩ : ∃ d, (alm ml s).length = (known (alm ml s)).length + d := ⟨_, (Nat.add_sub_cancel' hle).symm⟩
  unfold Mp.rgV
  rw [hd, List.range_add, List.findSome?_map, List.findSome?_map, List.findSome?_map, List.findSome?_append, List.findSome?_map]
  have e2 : (List.range d).findSome? ((brkF ml b s ∘ fun k : Nat => Val.int (1 + (k : Int))) ∘ fun x => (known (alm ml s)).length + x) = none := by
    rw [List.findSome?_eq_none_iff]
    intro m _
    simp only [Function.comp, brkF]
    have : ¬ (1 + (((known (alm ml s)).length + m : Nat) : Int)).toNat ≤ (known (alm ml s)).length := by omega
    rw [if_neg]
    unfold brk
    rw [decide_eq_false this]
    simp
  rw [e2, Option.or_none]
  refine findSome_congr fun m hm => ?_
  have hm' := List.mem_range.mp hm
  simp only [Function.comp, brkF, brkL]
  have et : (1 + (m : Int)).toNat = m + 1 := by omega
  rw [et]
  unfold brk
  have hc : m + 1 ≤ (known (alm ml s)).length := hm'
  have ec : (1 + (m : Int)) = (m : Int) + 1 := by omega
  by_cases q : b < (((known (alm ml s)).take (m + 1)).sum.natAbs : Int)
  · simp [hc, q, ec]
  · simp [hc, q]
/-! values of any kind -/
theorem tyN_keep {S S' : Sto} (k : Kp [] S S') {v : Val} (h : (tyN S v).isSome = true) : (tyN S' v).isSome = true := by
  cases v with
  | obj n =>
    have hn : n < S.length := by
      rcases Nat.lt_or_ge n S.length with q | q
      · exact q
      · have e : S[n]? = none := List.getElem?_eq_none q
        simp [tyN, e] at h
    have e := k.2 n hn (by simp)
    simp only [tyN] at h ⊢
    rw [e]
    exact h
  | _ => simpa [tyN] using h
/-- a value whose kind, and the kinds of whose items, are known -/
def GV (S : Sto) (v : Val) : Prop := (tyN S v).isSome = true ∧ ∀ vs, v = .tup vs → ∀ u ∈ vs, (tyN S u).isSome = true
theorem GV.keep {S S' : Sto} {v : Val} (h : GV S v) (k : Kp [] S S') : GV S' v := ⟨tyN_keep k h.1, fun vs e u hu => tyN_keep k (h.2 vs e u hu)⟩
theorem isi_no {S : Sto} {n : Nat} {T : String} (h : (tyN S (.obj n)).isSome = true) (hT : T = "tuple" ∨ T = "int") : isiS T S (.obj n) = some false := by
  obtain ⟨t, ht⟩ := Option.isSome_iff_exists.mp h
  have ht' : (match S[n]? with | some (.lst _) => some "list" | some (.frz _) => some "list" | some (.dic _) => some "dict" | some (.dtu _ _) => some "dict" | some (.dki _ _) => some "dict" | _ => none) = some t := ht
  have hn : t = "list" ∨ t = "dict" := by
    split at ht'
    · exact .inl (Option.some.inj ht').symm
    · exact .inl (Option.some.inj ht').symm
    · exact .inr (Option.some.inj ht').symm
    · exact .inr (Option.some.inj ht').symm
    · exact .inr (Option.some.inj ht').symm
    · cases ht'
  unfold isiS
  rw [ht]
  rcases hT with rfl | rfl <;> rcases hn with rfl | rfl <;> rfl
def amB : Val → Bool
  | .tup vs => decide (vs.length ≤ 40) && vs.all fun u => isNon u || isSg u
  | _ => false
theorem s_are_marks_any {n : Nat} {v : Val} {S : Sto} {Q : QV} {X : QX} (hg : GV S v) (h : ∀ S', Kp [] S S' → Q (.bl (amB v)) S') : callN G (n + 3) "are_marks" [v] S Q X := by
  refine ⟨_, G_are_marks, rfl, ?_⟩
  cases v with
  | tup vs =>
    have hv := hg.2 vs rfl
    by_cases c : vs.length ≤ 40
    · have c' : ¬ (40 : Int) < vs.length := by omega
      simp [execs, exec, ev, evs, evA, evO, evo, evc, evI, startE, asgT, setAll, truV, binS, cmpS, cmpI, isS, isNon_non, isNon_int, isNon_bl, isNon_tup, isNon_str, isNon_obj, biS, metS, metT, isiS, tyN, tyOk, ixS, slS, putS, alloc, wipeE, seqOf, F_are_marks, c']
      refine lcL_kp (fun u => .bl (isNon u || isSg u)) (fun _ _ => trivial) _ _ _ .refl (fun u hu S1 K' k1 hK => ?_) fun S1 k1 => ?_
      · cases e : isNon u with
        | true =>
          simp [e] at hK ⊢
          exact hK _ .refl
        | false =>
          simp [e] at hK ⊢
          exact s_is_sign (hK _ .refl) (tyN_keep k1 (hv u hu))
      · rw [List.nil_append]
        refine ⟨_, rL0, _, bls_map _ _, ?_⟩
        have := h _ (k1.trans (Kp.app [Obj.lst (vs.map fun u => Val.bl (isNon u || isSg u))]))
        simp [amB, c] at this
        simpa using this
    · have c' : (40 : Int) < vs.length := by omega
      simp [execs, exec, ev, evs, evA, evO, evo, evc, evI, startE, asgT, setAll, truV, binS, cmpS, cmpI, isS, isNon_non, isNon_int, isNon_bl, isNon_tup, isNon_str, isNon_obj, biS, metS, metT, isiS, tyN, tyOk, ixS, slS, putS, alloc, wipeE, seqOf, F_are_marks, c']
      have := h S .refl
      simpa [amB, c] using this
  | obj k =>
    have hi := isi_no (T := "tuple") hg.1 (.inl rfl)
    simp [execs, exec, ev, evs, evA, evO, startE, truV, F_are_marks, hi]
    exact h S .refl
  | exn a c => exact absurd hg.1 (by simp [tyN])
  | _ =>
    simp [execs, exec, ev, evs, evA, evO, evo, evc, evI, startE, asgT, setAll, truV, binS, cmpS, cmpI, isS, isNon_non, isNon_int, isNon_bl, isNon_tup, isNon_str, isNon_obj, biS, metS, metT, isiS, tyN, tyOk, ixS, slS, putS, alloc, wipeE, seqOf, F_are_marks]
    exact h S .refl
theorem s_lwhole {n : Nat} {v : Val} {S : Sto} {Q : QV} {X : QX} (h : Q (.bl (isW v)) S) (ht : (tyN S v).isSome = true := by rfl) : callN G (n + 1) "_law_whole" [v] S Q X := by
  refine ⟨_, G__law_whole, rfl, ?_⟩
  cases v with
  | obj k =>
    have i1 := isi_no (T := "int") ht (.inr rfl)
    simp [execs, exec, ev, evA, startE, truV, F__law_whole, i1]
    exact h
  | exn a c => simp [tyN] at ht
  | _ => simp [execs, exec, ev, evs, evA, evO, evo, evc, evI, startE, asgT, setAll, truV, binS, cmpS, cmpI, isS, isNon_non, isNon_int, isNon_bl, isNon_tup, isNon_str, isNon_obj, biS, metS, metT, isiS, tyN, tyOk, ixS, slS, putS, alloc, wipeE, seqOf, F__law_whole]; exact h
theorem in_sg (i : Int) : inb (.int i) [.int 1, .int (-1)] = isSg (.int i) := by
  unfold inb isSg
  simp [feq]
  rw [Bool.eq_iff_iff]
  simp
  omega
theorem lookup_in {c w : String} : ∀ (l : List (String × String)), l.lookup c = some w → (c, w) ∈ l
  | [], h => by cases h
  | (a, b) :: l, h => by
    rw [List.lookup_cons] at h
    split at h
    · rename_i e
      have e : c = a := by simpa using e
      cases h
      rw [e]
      exact List.mem_cons_self
    · exact List.mem_cons_of_mem _ (lookup_in l h)
theorem kind_cases {c w : String} (h : kindW c = some w) : (c, w) ∈ [("NoRow", "row"), ("NoStep", "step"), ("NoSteps", "steps"), ("NoBound", "bound"), ("NoNumber", "number"), ("NotKept", "kept"), ("NoMarks", "marks"), ("NoSigns", "signs"), ("NotSo", "so"), ("NoPattern", "pattern"), ("NoTail", "tail"), ("NotEven", "even"), ("NoRun", "run"), ("NoBoard", "board"), ("NoHues", "hues"), ("NoText", "text"), ("NoLine", "line"), ("NoDeed", "deed")] := lookup_in _ h
theorem kindF_cases {c w : String} (h : kindF c = some w) : (c, w) ∈ [("TooMany", "many"), ("TooFew", "few")] := lookup_in _ h
theorem kindX_cases {c w : String} (h : kindX c = some w) : (c, w) ∈ [("NoRow", "row"), ("NoStep", "step"), ("NoSteps", "steps"), ("NoBound", "bound"), ("NoNumber", "number"), ("NotKept", "kept"), ("NoMarks", "marks"), ("NoSigns", "signs"), ("NotSo", "so"), ("NoPattern", "pattern"), ("NoTail", "tail"), ("NotEven", "even"), ("NoRun", "run"), ("NoBoard", "board"), ("NoHues", "hues"), ("NoText", "text"), ("NoLine", "line"), ("NoDeed", "deed")] ++ [("TooMany", "many"), ("TooFew", "few")] := by
  unfold kindX at h
  cases e : kindW c with
  | some u =>
    rw [e] at h
    cases h
    exact List.mem_append_left _ (kind_cases e)
  | none =>
    rw [e] at h
    exact List.mem_append_right _ (kindF_cases h)
theorem kindX_W {c w : String} (h : kindW c = some w) : kindX c = some w := by unfold kindX; rw [h]; rfl
theorem hot_kind {a : Addr} {c w : String} {fs : List Int} {S : Sto} {Q : QV} {X : QX} (hw : kindX c = some w) (h : ∀ T, Q (.str (Str.ofString w)) (S ++ T)) : hotC a c fs "_law_kind" [.exn a c] S Q X := .inr (.inl ⟨rfl, rfl, w, hw, h⟩)
theorem hot_whole {a : Addr} {c : String} {fs : List Int} {i : Int} {S : Sto} {Q : QV} {X : QX} (h : ∀ T, Q (.bl true) (S ++ T)) : hotC a c fs "_law_whole" [.int i] S Q X := .inr (.inr (.inl ⟨rfl, ⟨i, rfl⟩, h⟩))
theorem hot_many {a : Addr} {c : String} {i j : Int} {S : Sto} {Q : QV} {X : QX} (h : Q (.int i) S) : hotC a c [i, j] ("." ++ "many") [.exn a c] S Q X := .inr (.inr (.inr ⟨i, j, rfl, rfl, .inl ⟨rfl, h⟩⟩))
theorem hot_most {a : Addr} {c : String} {i j : Int} {S : Sto} {Q : QV} {X : QX} (h : Q (.int j) S) : hotC a c [i, j] ("." ++ "most") [.exn a c] S Q X := .inr (.inr (.inr ⟨i, j, rfl, rfl, .inr ⟨rfl, h⟩⟩))
theorem plain_suite (a0 : Addr) (e : Exc) (w : Val) (S : Sto) (h : saidV e = some w) : execs (hotC a0 e.cls e.fs) B_said [none, none, some (.exn a0 e.cls), none] S (koT S w) := by
  obtain ⟨c0, fs⟩ := e
  unfold saidV at h
  dsimp only at h ⊢
  split at h
  · obtain ⟨w, hw, rfl⟩ := Option.map_eq_some_iff.mp h
    have hx := kindX_W hw
    have hm := kind_cases hw
    clear h
    generalize hC : hotC a0 c0 [] = C
    simp only [execs, exec, ev, evs, evA, evO, evo, evc, evI, startE, asgT, setAll, truV, binS, cmpS, cmpI, isS, isNon_non, isNon_int, isNon_bl, isNon_tup, isNon_str, isNon_obj, biS, metS, metT, isiS, tyN, tyOk, ixS, slS, putS, alloc, wipeE, seqOf, B_said]
    simp
    subst hC
    refine hot_kind hx fun T => ?_
    have hn : inb (.str (Str.ofString w)) [.str (Str.ofString "many"), .str (Str.ofString "few")] = false := by
      simp only [List.mem_cons, List.mem_nil_iff, or_false, Prod.mk.injEq] at hm
      rcases hm with ⟨_, rfl⟩ | ⟨_, rfl⟩ | ⟨_, rfl⟩ | ⟨_, rfl⟩ | ⟨_, rfl⟩ | ⟨_, rfl⟩ | ⟨_, rfl⟩ | ⟨_, rfl⟩ | ⟨_, rfl⟩ | ⟨_, rfl⟩ | ⟨_, rfl⟩ | ⟨_, rfl⟩ | ⟨_, rfl⟩ | ⟨_, rfl⟩ | ⟨_, rfl⟩ | ⟨_, rfl⟩ | ⟨_, rfl⟩ | ⟨_, rfl⟩ <;> decide +kernel
    have h1 := hn
    unfold inb at h1
    simp [koT, inS, flat, hn]
  · rename_i i j
    obtain ⟨w, hw, rfl⟩ := Option.map_eq_some_iff.mp h
    have hm := kindF_cases hw
    clear h
    have hx : kindX c0 = some w := by
      simp only [List.mem_cons, List.mem_nil_iff, or_false, Prod.mk.injEq] at hm
      rcases hm with ⟨rfl, rfl⟩ | ⟨rfl, rfl⟩ <;> decide
    have hn : inb (.str (Str.ofString w)) [.str (Str.ofString "many"), .str (Str.ofString "few")] = true := by
      simp only [List.mem_cons, List.mem_nil_iff, or_false, Prod.mk.injEq] at hm
      rcases hm with ⟨rfl, rfl⟩ | ⟨rfl, rfl⟩ <;> decide +kernel
    generalize hC : hotC a0 c0 [i, j] = C
    simp only [execs, exec, ev, evs, evA, evO, evo, evc, evI, startE, asgT, setAll, truV, binS, cmpS, cmpI, isS, isNon_non, isNon_int, isNon_bl, isNon_tup, isNon_str, isNon_obj, biS, metS, metT, isiS, tyN, tyOk, ixS, slS, putS, alloc, wipeE, seqOf, B_said]
    simp only [List.getElem?_cons_succ, List.getElem?_cons_zero, Option.some.injEq, exists_eq_left']
    subst hC
    refine hot_kind hx fun T => ?_
    simp only [koT, inS, flat]
    refine ⟨_, rfl, by decide, rfl, by decide, ?_⟩
    rw [if_pos hn]
    refine ⟨_, rfl, _, rfl, hot_many (hot_whole fun T1 => ⟨true, rfl, ?_⟩)⟩
    rw [if_pos rfl]
    refine ⟨_, rfl, hot_many ?_⟩
    refine ⟨_, rfl, hot_most (hot_whole fun T2 => ⟨true, rfl, ?_⟩)⟩
    rw [if_pos rfl]
    refine ⟨_, rfl, hot_most ?_⟩
    exact ⟨by simp, rfl, T ++ (T1 ++ T2), by simp⟩
  · cases h
theorem plain_whole (a0 : Addr) (c0 : String) (fs : List Int) (i : Int) (S : Sto) : runF (hotC a0 c0 fs) D_whole [.int i] S (fun v S' => v = .bl true ∧ ∃ T, S' = S ++ T) fun _ _ => False := by
  refine ⟨rfl, ?_⟩
  simp [execs, exec, ev, evs, evA, evO, evo, evc, evI, startE, asgT, setAll, truV, binS, cmpS, cmpI, isS, isNon_non, isNon_int, isNon_bl, isNon_tup, isNon_str, isNon_obj, biS, metS, metT, isiS, tyN, tyOk, ixS, slS, putS, alloc, wipeE, seqOf, F__law_whole]
theorem ev_isx {a0 : Addr} {c0 T : String} {fs : List Int} {r : Env} {S : Sto} {Q : QV} {X : QX} : ev (hotC a0 c0 fs) (.isx (.var 0) T) (some (.exn a0 c0) :: r) S Q X = Q (.bl (isxB c0 T)) S := by
  apply propext
  simp only [ev]
  constructor
  · rintro ⟨v, h, a, c, rfl, h2, q⟩
    simp at h
    obtain ⟨rfl, rfl⟩ := h
    exact q
  · exact fun q => ⟨.exn a0 c0, rfl, a0, c0, rfl, .inl ⟨rfl, rfl⟩, q⟩
theorem execs_c {C : Call} {s : St} {l : Ss} {r : Env} {S : Sto} {k : Ko} (h : exec C s r S { k with nx := fun r1 S1 => execs C l r1 S1 k }) : execs C (.cons s l) r S k := by simpa only [execs] using h
/-- four truths more -/
theorem kind_add {a0 : Addr} {c0 T1 T2 T3 T4 : String} {fs : List Int} {S0 S : Sto} {n : Nat} {l : List Bool} {o : Option Val} {k : Ko} (hn : getL S n = some (l.map .bl)) (hl : l.length ≤ 100) (h0 : ∃ T, S = S0 ++ T)
    (h : ∀ (n' : Nat) (S' : Sto), getL S' n' = some ((l ++ [isxB c0 T1, isxB c0 T2, isxB c0 T3, isxB c0 T4]).map .bl) → (∃ T, S' = S0 ++ T) → k.nx [some (.exn a0 c0), some (.obj n'), o] S') :
    exec (hotC a0 c0 fs) (.asg (.nm 1) (.bin .add (.var 1) (.lst (.cons (.isx (.var 0) T1) (.cons (.isx (.var 0) T2) (.cons (.isx (.var 0) T3) (.cons (.isx (.var 0) T4) .nil))))))) [some (.exn a0 c0), some (.obj n), o] S k := by
  have e : ∀ (S' : Sto) (Q : QV) (X : QX), hotC a0 c0 fs "exn" [.exn a0 c0] S' Q X := fun _ _ _ => .inl ⟨rfl, rfl⟩
  simp only [↓ev_isx, exec, ev, evs, binS, asgT, alloc]
  simp [gLo hn, gL0]
  refine ⟨by omega, h _ _ ?_ ?_⟩
  · simp [gL1]
  · obtain ⟨T, rfl⟩ := h0
    exact ⟨_, List.append_assoc _ _ _⟩
theorem kind_new {a0 : Addr} {c0 T1 T2 T3 T4 : String} {fs : List Int} {S : Sto} {o o2 : Option Val} {k : Ko}
    (h : ∀ (n' : Nat) (S' : Sto), getL S' n' = some ([isxB c0 T1, isxB c0 T2, isxB c0 T3, isxB c0 T4].map .bl) → (∃ T, S' = S ++ T) → k.nx [some (.exn a0 c0), some (.obj n'), o] S') :
    exec (hotC a0 c0 fs) (.asg (.nm 1) (.lst (.cons (.isx (.var 0) T1) (.cons (.isx (.var 0) T2) (.cons (.isx (.var 0) T3) (.cons (.isx (.var 0) T4) .nil)))))) [some (.exn a0 c0), o2, o] S k := by
  have e : ∀ (S' : Sto) (Q : QV) (X : QX), hotC a0 c0 fs "exn" [.exn a0 c0] S' Q X := fun _ _ _ => .inl ⟨rfl, rfl⟩
  simp only [↓ev_isx, exec, ev, evs, binS, asgT, alloc]
  simp
  exact h S.length _ (by simp [gL0]) ⟨_, rfl⟩
theorem plain_kind (a0 : Addr) (c0 : String) (fs : List Int) (w : String) (S : Sto) (h : kindX c0 = some w) : runF (hotC a0 c0 fs) D_kind [.exn a0 c0] S (fun v S' => v = .str (Str.ofString w) ∧ ∃ T, S' = S ++ T) fun _ _ => False := by
  refine ⟨rfl, ?_⟩
  have hm := kindX_cases h
  have e : ∀ (S' : Sto) (Q : QV) (X : QX), hotC a0 c0 fs "exn" [.exn a0 c0] S' Q X := fun _ _ _ => .inl ⟨rfl, rfl⟩
  have v1 : isxB c0 "ValueError" = true := by simp [isxB]
  refine execs_c (kind_new fun n1 S1 h1 t1 => ?_)
  refine execs_c (kind_add h1 (by simp) t1 fun n2 S2 h2 t2 => ?_)
  refine execs_c (kind_add h2 (by simp) t2 fun n3 S3 h3 t3 => ?_)
  refine execs_c (kind_add h3 (by simp) t3 fun n4 S4 h4 t4 => ?_)
  refine execs_c (kind_add h4 (by simp) t4 fun n5 S5 h5 t5 => ?_)
  clear h1 h2 h3 h4 t1 t2 t3 t4
  have r5 := gts h5
  have t6 : ∀ U, ∃ T, S5 ++ U = S ++ T := fun U => let ⟨T, e⟩ := t5; ⟨T ++ U, by rw [e, List.append_assoc]⟩
  clear t5
  generalize hbs : ([isxB c0 "NoRow", isxB c0 "NoStep", isxB c0 "NoSteps", isxB c0 "NoBound"] ++ [isxB c0 "NoNumber", isxB c0 "NotKept", isxB c0 "NoMarks", isxB c0 "NoSigns"] ++ [isxB c0 "NotSo", isxB c0 "NoPattern", isxB c0 "NoTail", isxB c0 "NotEven"] ++ [isxB c0 "NoRun", isxB c0 "NoBoard", isxB c0 "NoHues", isxB c0 "NoText"] ++ [isxB c0 "NoLine", isxB c0 "NoDeed", isxB c0 "TooMany", isxB c0 "TooFew"]) = bs at h5 r5
  have hb : blsOf (bs.map .bl) = some bs := by simpa using bls_map id bs
  have key : bs.count true = 1 ∧ true ∈ bs ∧ ([Val.str (Str.ofString "row"), .str (Str.ofString "step"), .str (Str.ofString "steps"), .str (Str.ofString "bound"), .str (Str.ofString "number"), .str (Str.ofString "kept"), .str (Str.ofString "marks"), .str (Str.ofString "signs"), .str (Str.ofString "so"), .str (Str.ofString "pattern"), .str (Str.ofString "tail"), .str (Str.ofString "even")] ++
      [.str (Str.ofString "run"), .str (Str.ofString "board"), .str (Str.ofString "hues"), .str (Str.ofString "text"), .str (Str.ofString "line"), .str (Str.ofString "deed"), .str (Str.ofString "many"), .str (Str.ofString "few")])[bs.idxOf true]? = some (.str (Str.ofString w)) := by
    subst hbs
    simp only [List.cons_append, List.nil_append, List.mem_cons, List.mem_nil_iff, or_false, Prod.mk.injEq] at hm
    rcases hm with ⟨rfl, rfl⟩ | ⟨rfl, rfl⟩ | ⟨rfl, rfl⟩ | ⟨rfl, rfl⟩ | ⟨rfl, rfl⟩ | ⟨rfl, rfl⟩ | ⟨rfl, rfl⟩ | ⟨rfl, rfl⟩ | ⟨rfl, rfl⟩ | ⟨rfl, rfl⟩ | ⟨rfl, rfl⟩ | ⟨rfl, rfl⟩ | ⟨rfl, rfl⟩ | ⟨rfl, rfl⟩ | ⟨rfl, rfl⟩ | ⟨rfl, rfl⟩ | ⟨rfl, rfl⟩ | ⟨rfl, rfl⟩ | ⟨rfl, rfl⟩ | ⟨rfl, rfl⟩
    all_goals exact ⟨by decide +kernel, by decide +kernel, rfl⟩
  obtain ⟨k1, k2, k3⟩ := key
  have k4 := at_ofNat k3
  simp only [List.cons_append, List.nil_append] at k4
  simp only [↓ev_isx, execs, exec, ev, evs, evA, evO, evo, evc, evI, startE, asgT, setAll, truV, binS, cmpS, cmpI, isS, isNon_non, isNon_int, isNon_bl, isNon_tup, isNon_str, isNon_obj, biS, metS, metT, isiS, tyN, tyOk, ixS, slS, putS, alloc, wipeE, seqOf]
  simp [v1, r5, hb, k1, k2, rLo r5, gL0, gL1, gLo, rL1, rL2, k4, eqS, t6]
theorem plainK : PlainK B_said D_kind D_whole := ⟨plain_kind, plain_suite, plain_whole⟩
/-! what is refused: errors, values of other kinds -/
theorem tyN_keepP {S S' : Sto} {p : Nat} (k : Kp [p] S S') (hp : Pen S' p) {v : Val} (h : (tyN S v).isSome = true) : (tyN S' v).isSome = true := by
  cases v with
  | obj n =>
    by_cases e : n = p
    · subst e
      obtain ⟨a, b, g, _⟩ := hp
      simp [tyN, getL_at g]
    · have hn : n < S.length := by
        rcases Nat.lt_or_ge n S.length with q | q
        · exact q
        · have e : S[n]? = none := List.getElem?_eq_none q
          simp [tyN, e] at h
      have e := k.2 n hn (by simpa using e)
      simp only [tyN] at h ⊢
      rw [e]
      exact h
  | _ => simpa [tyN] using h
theorem tyN_kp {S S' : Sto} (k : Kp [] S S') {v : Val} (h : (tyN S v).isSome = true) : (tyN S' v).isSome = true := by
  cases v with
  | obj n =>
    have hn : n < S.length := by
      rcases Nat.lt_or_ge n S.length with q | q
      · exact q
      · have e : S[n]? = none := List.getElem?_eq_none q
        simp [tyN, e] at h
    have e := k.2 n hn (by simp)
    simp only [tyN] at h ⊢
    rw [e]
    exact h
  | _ => simpa [tyN] using h
theorem strOk_said : ∀ w ∈ ["told", "row", "step", "steps", "bound", "number", "kept", "marks", "signs", "so", "pattern", "tail", "even", "run", "board", "hues", "text", "line", "deed"], PyData.strOk (Str.ofString w) = true := by decide +kernel
theorem toD_word {n : Nat} {S : Sto} {w : String} (h : PyData.strOk (Str.ofString w) = true) : toD (n + 2) S (.tup [.str (Str.ofString w)]) = some (.tuple [.str (Str.ofString w)]) := by
  simp [toD, h]
def wv (w : String) : Val := .tup [.str (Str.ofString w)]
def wd (w : String) : PyData := .tuple [.str (Str.ofString w)]
theorem mapM_words {n : Nat} {S : Sto} : ∀ (ws : List String), (∀ w ∈ ws, PyData.strOk (Str.ofString w) = true) → (ws.map wv).mapM (toD (n + 2) S) = some (ws.map wd)
  | [], _ => rfl
  | w :: ws, h => by
    have e : toD (n + 2) S (wv w) = some (wd w) := toD_word (h w List.mem_cons_self)
    rw [List.map_cons, List.mapM_cons, e, mapM_words ws fun x hx => h x (List.mem_cons_of_mem _ hx)]
    rfl
theorem toD_words {n k : Nat} {S : Sto} (ws : List String) (h : ∀ w ∈ ws, PyData.strOk (Str.ofString w) = true) (e : rdL S k = some (ws.map wv)) : toD (n + 3) S (.obj k) = some (.list (ws.map wd)) := by
  show (match rdL S k with | some l => (l.mapM (toD (n + 2) S)).map PyData.list | none => none) = _
  rw [e]
  show ((ws.map wv).mapM (toD (n + 2) S)).map PyData.list = _
  rw [mapM_words ws h]
  rfl
/-- two lists of the same words are equal -/
theorem eq_words {a b : Nat} {S : Sto} {Q : Bool → Prop} (ws : List String) (h : ∀ w ∈ ws, w ∈ ["told", "row", "step", "steps", "bound", "number", "kept", "marks", "signs", "so", "pattern", "tail", "even", "run", "board", "hues", "text", "line", "deed"]) (ea : rdL S a = some (ws.map wv)) (eb : rdL S b = some (ws.map wv)) (hq : Q true) : eqS (.obj a) (.obj b) S Q := by
  have ok : ∀ w ∈ ws, PyData.strOk (Str.ofString w) = true := fun w hw => strOk_said w (h w hw)
  have e : ∀ ws : List String, PyData.eqvAll (ws.map wd) (ws.map wd) = true := by
    intro ws
    induction ws with
    | nil => simp [PyData.eqvAll]
    | cons w ws ih => simp [PyData.eqvAll, PyData.eqv, wd, ih]
  exact ⟨_, _, toD_words ws ok ea, toD_words ws ok eb, by simpa [PyData.eqv, e] using hq⟩
/-- the words of a call, kept folded -/
def SaidE (C : Call) (e : E) (r : Env) (S : Sto) (Q : QV) : Prop := ev C (.said e) r S Q (fun _ _ => False)
theorem ev_saidE {C : Call} {e : E} {r : Env} {S : Sto} {Q : QV} {X : QX} : ev C (.said e) r S Q X = SaidE C e r S Q := by simp only [SaidE, ev]
/-- f of these arguments is said in words of the kind P -/
def Sd (GT : Table) (n : Nat) (f : String) (vs : List Val) (S : Sto) (P : Val → Prop) : Prop := ∀ S', Kp [] S S' → ∀ Q : QV, (∀ w S'', P w → Kp [] S' S'' → Q w S'') →
  callN GT n f vs S' (fun v S1 => Q (.tup [.str (Str.ofString "told"), v]) S1) (fun x S1 => ∃ w, saidV x = some w ∧ ∀ T, Q w (S1 ++ T))
theorem said_call {GT : Table} {n : Nat} {f : String} {l : Es} {vs : List Val} {r : Env} {S : Sto} {P : Val → Prop} {Q : QV} (h : Sd GT n f vs S P) (hq : ∀ w S', P w → Kp [] S S' → Q w S') (ha : ∀ (K : List Val → Sto → Prop) (X : QX), K vs S → evs (callN GT n) l r S K X := by intro K X hK; simpa [evs, ev] using hK) : SaidE (callN GT n) (.call f l) r S Q := by
  unfold SaidE
  simp only [ev]
  exact ha _ _ (h S .refl Q hq)
theorem Sd.keep {GT : Table} {n : Nat} {f : String} {vs : List Val} {S S' : Sto} {P : Val → Prop} (h : Sd GT n f vs S P) (k : Kp [] S S') : Sd GT n f vs S' P := fun S1 k1 => h S1 (k.trans k1)
/-- refused -/
theorem sd_err {GT : Table} {n : Nat} {f c w : String} {vs : List Val} {S : Sto} (hw : kindW c = some w) (h : ∀ S', Kp [] S S' → ∀ (Q : QV) (X : QX), (∀ S'', Kp [] S' S'' → X ⟨c, []⟩ S'') → callN GT n f vs S' Q X) : Sd GT n f vs S (fun u => u = wv w) := fun S' k Q hq =>
  h S' k _ _ fun S2 k2 => ⟨wv w, by simp [saidV, hw, wv], fun T => hq _ _ rfl (k2.trans (Kp.app T))⟩
/-- what is said of an error with fields -/
def fv (w : String) (i j : Int) : Val := .tup [.str (Str.ofString w), .int i, .int j]
theorem sd_errF {GT : Table} {n : Nat} {f c w : String} {i j : Int} {vs : List Val} {S : Sto} (hw : kindF c = some w) (h : ∀ S', Kp [] S S' → ∀ (Q : QV) (X : QX), (∀ S'', Kp [] S' S'' → X ⟨c, [i, j]⟩ S'') → callN GT n f vs S' Q X) : Sd GT n f vs S (fun u => u = fv w i j) := fun S' k Q hq =>
  h S' k _ _ fun S2 k2 => ⟨fv w i j, by simp [saidV, hw, fv], fun T => hq _ _ rfl (k2.trans (Kp.app T))⟩
/-- told -/
theorem sd_told {GT : Table} {n : Nat} {f : String} {vs : List Val} {S : Sto} {P : Val → Prop} (h : ∀ S', Kp [] S S' → ∀ (Q : QV) (X : QX), (∀ v S'', P v → Kp [] S' S'' → Q v S'') → callN GT n f vs S' Q X) : Sd GT n f vs S (fun u => ∃ v, P v ∧ u = .tup [.str (Str.ofString "told"), v]) := fun S' k Q hq =>
  h S' k _ _ fun v S2 hv k2 => hq _ _ ⟨v, hv, rfl⟩ k2
/-- the word of a call, kept folded -/
def WordE (C : Call) (e : E) (r : Env) (S : Sto) (Q : QV) : Prop := ev C (.word e) r S Q (fun _ _ => False)
theorem ev_wordE {C : Call} {e : E} {r : Env} {S : Sto} {Q : QV} {X : QX} : ev C (.word e) r S Q X = WordE C e r S Q := by simp only [WordE, ev]
/-- f of these arguments is refused with the word w -/
def Wd (GT : Table) (n : Nat) (f : String) (vs : List Val) (S : Sto) (w : String) : Prop := ∀ S', Kp [] S S' → ∀ Q : QV, (∀ S'', Kp [] S' S'' → Q (.str (Str.ofString w)) S'') →
  callN GT n f vs S' (fun v S1 => Q (.str (Str.ofString "told")) S1) (fun x S1 => ∃ w, saidV x = some (.tup [w]) ∧ ∀ T, Q w (S1 ++ T))
theorem word_call {GT : Table} {n : Nat} {f : String} {l : Es} {vs : List Val} {r : Env} {S : Sto} {w : String} {Q : QV} (h : Wd GT n f vs S w) (hq : ∀ S', Kp [] S S' → Q (.str (Str.ofString w)) S') (ha : ∀ (K : List Val → Sto → Prop) (X : QX), K vs S → evs (callN GT n) l r S K X := by intro K X hK; simpa [evs, ev] using hK) : WordE (callN GT n) (.call f l) r S Q := by
  unfold WordE
  simp only [ev]
  exact ha _ _ (h S .refl Q hq)
theorem wd_err {GT : Table} {n : Nat} {f c w : String} {vs : List Val} {S : Sto} (hw : kindW c = some w) (h : ∀ S', Kp [] S S' → ∀ (Q : QV) (X : QX), (∀ S'', Kp [] S' S'' → X ⟨c, []⟩ S'') → callN GT n f vs S' Q X) : Wd GT n f vs S w := fun S' k Q hq =>
  h S' k _ _ fun S2 k2 => ⟨.str (Str.ofString w), by simp [saidV, hw], fun T => hq _ (k2.trans (Kp.app T))⟩
def sv (w : String) : Val := .str (Str.ofString w)
theorem mapM_strs {n : Nat} {S : Sto} : ∀ (ws : List String), (∀ w ∈ ws, PyData.strOk (Str.ofString w) = true) → (ws.map sv).mapM (toD (n + 1) S) = some (ws.map fun w => PyData.str (Str.ofString w))
  | [], _ => rfl
  | w :: ws, h => by
    have e : toD (n + 1) S (sv w) = some (PyData.str (Str.ofString w)) := by simp [toD, sv, h w List.mem_cons_self]
    rw [List.map_cons, List.mapM_cons, e, mapM_strs ws fun x hx => h x (List.mem_cons_of_mem _ hx)]
    rfl
theorem eq_strs {a b : Nat} {S : Sto} {Q : Bool → Prop} (ws : List String) (h : ∀ w ∈ ws, w ∈ ["told", "row", "step", "steps", "bound", "number", "kept", "marks", "signs", "so", "pattern", "tail", "even", "run", "board", "hues", "text", "line", "deed"]) (ea : rdL S a = some (ws.map sv)) (eb : rdL S b = some (ws.map sv)) (hq : Q true) : eqS (.obj a) (.obj b) S Q := by
  have ok : ∀ w ∈ ws, PyData.strOk (Str.ofString w) = true := fun w hw => strOk_said w (h w hw)
  have e : ∀ ws : List String, PyData.eqvAll (ws.map fun w => PyData.str (Str.ofString w)) (ws.map fun w => PyData.str (Str.ofString w)) = true := by
    intro ws
    induction ws with
    | nil => simp [PyData.eqvAll]
    | cons w ws ih => simp [PyData.eqvAll, PyData.eqv, ih]
  have key : ∀ k, rdL S k = some (ws.map sv) → toD 60 S (.obj k) = some (.list (ws.map fun w => PyData.str (Str.ofString w))) := by
    intro k ek
    show (match rdL S k with | some l => (l.mapM (toD 59 S)).map PyData.list | none => none) = _
    rw [ek]
    show ((ws.map sv).mapM (toD 59 S)).map PyData.list = _
    rw [mapM_strs (n := 58) ws ok]
    rfl
  exact ⟨_, _, key a ea, key b eb, by simpa [PyData.eqv, e] using hq⟩
/-! no rows, no marks -/
def arB : Val → Bool
  | .tup vs => decide (vs.length ≤ 100) && vs.all isSg
  | _ => false
theorem GV.keepP {S S' : Sto} {p : Nat} {v : Val} (h : GV S v) (k : Kp [p] S S') (hp : Pen S' p) : GV S' v := ⟨tyN_keepP k hp h.1, fun vs e u hu => tyN_keepP k hp (h.2 vs e u hu)⟩
theorem s_a_row_any {n : Nat} {v : Val} {S : Sto} {Q : QV} {X : QX} (hg : GV S v) (h : ∀ S', Kp [] S S' → Q (.bl (arB v)) S') : callN G (n + 3) "a_row" [v] S Q X := by
  refine ⟨_, G_a_row, rfl, ?_⟩
  cases v with
  | tup vs =>
    have hv := hg.2 vs rfl
    by_cases c : vs.length ≤ 100
    · have c' : (vs.length : Int) ≤ 100 := by omega
      simp [execs, exec, ev, evs, evA, evO, evo, evc, evI, startE, asgT, setAll, truV, binS, cmpS, cmpI, isS, isNon_non, isNon_int, isNon_bl, isNon_tup, isNon_str, isNon_obj, biS, metS, metT, isiS, tyN, tyOk, ixS, slS, putS, alloc, wipeE, seqOf, F_a_row, c']
      refine lcL_kp (fun u => .bl (isSg u)) (fun _ _ => trivial) _ _ _ .refl (fun u hu S1 K' k1 hK => ?_) fun S1 k1 => ?_
      · exact s_is_sign (hK _ .refl) (tyN_keep k1 (hv u hu))
      · rw [List.nil_append]
        refine ⟨_, rL0, _, bls_map _ _, ?_⟩
        have := h _ (k1.trans (Kp.app [Obj.lst (vs.map fun u => Val.bl (isSg u))]))
        simp [arB, c] at this
        simpa using this
    · have c' : ¬ (vs.length : Int) ≤ 100 := by omega
      simp [execs, exec, ev, evs, evA, evO, evo, evc, evI, startE, asgT, setAll, truV, binS, cmpS, cmpI, isS, isNon_non, isNon_int, isNon_bl, isNon_tup, isNon_str, isNon_obj, biS, metS, metT, isiS, tyN, tyOk, ixS, slS, putS, alloc, wipeE, seqOf, F_a_row, c']
      have := h S .refl
      simpa [arB, c] using this
  | obj k =>
    have hi := isi_no (T := "tuple") hg.1 (.inl rfl)
    simp [execs, exec, ev, evs, evA, evO, startE, truV, F_a_row, hi]
    exact h S .refl
  | exn a c => exact absurd hg.1 (by simp [tyN])
  | _ =>
    simp [execs, exec, ev, evs, evA, evO, evo, evc, evI, startE, asgT, setAll, truV, binS, cmpS, cmpI, isS, isNon_non, isNon_int, isNon_bl, isNon_tup, isNon_str, isNon_obj, biS, metS, metT, isiS, tyN, tyOk, ixS, slS, putS, alloc, wipeE, seqOf, F_a_row]
    exact h S .refl
theorem s_need_row_bad {n : Nat} {v : Val} {S : Sto} {Q : QV} {X : QX} (hb : arB v = false) (hg : GV S v) (h : ∀ S', Kp [] S S' → X ⟨"NoRow", []⟩ S') : callN G (n + 4) "need_row" [v] S Q X := by
  refine ⟨_, G_need_row, rfl, ?_⟩
  simp [execs, exec, ev, evs, evA, evO, evo, evc, evI, startE, asgT, setAll, truV, binS, cmpS, cmpI, isS, isNon_non, isNon_int, isNon_bl, isNon_tup, isNon_str, isNon_obj, biS, metS, metT, isiS, tyN, tyOk, ixS, slS, putS, alloc, wipeE, seqOf, F_need_row]
  exact s_a_row_any hg fun S' k => by simpa [hb] using h S' k
theorem s_need_marks_bad {n : Nat} {v : Val} {S : Sto} {Q : QV} {X : QX} (hb : amB v = false) (hg : GV S v) (h : ∀ S', Kp [] S S' → X ⟨"NoMarks", []⟩ S') : callN G (n + 4) "need_marks" [v] S Q X := by
  refine ⟨_, G_need_marks, rfl, ?_⟩
  simp [execs, exec, ev, evs, evA, evO, evo, evc, evI, startE, asgT, setAll, truV, binS, cmpS, cmpI, isS, isNon_non, isNon_int, isNon_bl, isNon_tup, isNon_str, isNon_obj, biS, metS, metT, isiS, tyN, tyOk, ixS, slS, putS, alloc, wipeE, seqOf, F_need_marks]
  exact s_are_marks_any hg fun S' k => by simpa [hb] using h S' k
theorem GV_tup {S : Sto} {vs : List Val} (h : ∀ u ∈ vs, (tyN S u).isSome = true) : GV S (.tup vs) := ⟨rfl, fun ws e u hu => by cases e; exact h u hu⟩
theorem GV_obj {S : Sto} {n : Nat} (h : (tyN S (.obj n)).isSome = true) : GV S (.obj n) := ⟨h, fun ws e => by cases e⟩
theorem GV_lst {S : Sto} {n : Nat} {l : List Val} (h : getL S n = some l) : GV S (.obj n) := by
  refine GV_obj ?_
  simp [tyN, getL_at h]
theorem GV_flat {S : Sto} {vs : List Val} (h : (vs.all fun u => (tyN [] u).isSome) = true) : GV S (.tup vs) := by
  refine GV_tup fun u hu => ?_
  have := List.all_eq_true.mp h u hu
  cases u with
  | obj n => simp [tyN] at this
  | exn a c => simp [tyN] at this
  | _ => rfl
theorem GV_non {S : Sto} {v : Val} (h : (tyN S v).isSome = true) (hn : ∀ vs, v ≠ .tup vs) : GV S v := ⟨h, fun vs e => absurd e (hn vs)⟩
/-- one of a list of odd things is picked: two of them are young -/
theorem s_odd {n p : Nat} {os : List Val} {m : Int} {S : Sto} {o1 o2 : Obj} {Q : QV} {X : QX} (hp : Pen S p) (hm : m = os.length) (h0 : 0 < os.length) (h1 : os.length < 1000) (P : Val → Prop) (hos : ∀ o ∈ os, P o ∧ GV (S ++ [o1, o2, .lst os]) o)
    (h : ∀ k v S', rdL S' (S.length + 2) = some os → L2.atI os k = some v → P v → GV S' v → Pen S' p → Kp [p] S S' → Q (.int k) S') : callN G (n + 1) "_law_draw" [.obj p, .int m] (S ++ [o1, o2, .lst os]) Q X := by
  have hpn : p < S.length := by obtain ⟨_, _, e, _⟩ := hp; exact getL_lt e
  have hO : rdL (S ++ [o1, o2, .lst os]) (S.length + 2) = some os := rL2
  refine s_draw (hp.keep (Kp.app (ps := []) [o1, o2, .lst os]) (by simp)) (by omega) (by omega) fun k S1 b1 b2 p1 k1 => ?_
  obtain ⟨v, a1, a2⟩ := at_lt (l := os) b1 (by omega)
  exact h k v S1 (k1.rdL hO (by simp; omega)) a1 (hos v a2).1 ((hos v a2).2.keepP k1 p1) p1 ((Kp.app _).trans k1)
theorem GV_new1 {S : Sto} {l : List Val} {o2 o3 : Obj} : GV (S ++ [.lst l, o2, o3]) (.obj S.length) := GV_lst gL0
theorem GV_new2 {S : Sto} {o1 o3 : Obj} : GV (S ++ [o1, .dic [], o3]) (.obj (S.length + 1)) := by
  refine GV_obj ?_
  have e : (S ++ [o1, Obj.dic [], o3])[S.length + 1]? = some (Obj.dic []) := by
    rw [List.getElem?_append_right (by omega), Nat.add_sub_cancel_left]; rfl
  simp only [tyN, e]; rfl
theorem isSg_app {a b : List Val} {o : Val} (h : isSg o = false) : (a ++ o :: b).all isSg = false := by
  rw [List.all_append, List.all_cons, h]
  simp
theorem s_no_row2 {n p : Nat} {l : List Int} {S : Sto} {Q : QV} {X : QX} (hl : l.length ≤ 100) (hp : Pen S p) (h : ∀ v S', arB v = false → GV S' v → Pen S' p → Kp [p] S S' → Q v S') : callN G (n + 2) "_law_no_row" [.obj p, .tup (l.map .int)] S Q X := by
  refine ⟨_, G__law_no_row, rfl, ?_⟩
  simp only [execs, exec, ev, evs, evA, evO, evo, evc, evI, startE, asgT, setAll, truV, binS, cmpS, cmpI, isS, isNon_non, isNon_int, isNon_bl, isNon_tup, isNon_str, isNon_obj, biS, metS, metT, isiS, tyN, tyOk, ixS, slS, putS, alloc, wipeE, seqOf, F__law_no_row]
  simp
  refine s_draw hp (by omega) (by omega) fun at1 S1 a1 a2 p1 k1 => ?_
  simp only [B__law_no_row_2]
  simp only [execs, exec, ev, evs, evA, evO, evo, evc, evI, startE, asgT, setAll, truV, binS, cmpS, cmpI, isS, isNon_non, isNon_int, isNon_bl, isNon_tup, isNon_str, isNon_obj, biS, metS, metT, isiS, tyN, tyOk, ixS, slS, putS, alloc, wipeE, seqOf]
  simp
  obtain ⟨os, eos⟩ : ∃ os, os = [Val.int 0, Val.int 2, Val.int (-2), Val.bl true, Val.non, Val.str (Str.ofString "+"), Val.tup [Val.int 1], Val.int 1000000000000000000000000000000, Val.bl false] := ⟨_, rfl⟩
  rw [← eos]
  have hol : os.length = 9 := by rw [eos]; rfl
  have hos : ∀ o ∈ os, isSg o = false ∧ ∀ S, (tyN S o).isSome = true := by
    intro o ho
    rw [eos] at ho
    simp only [List.mem_cons, List.not_mem_nil, or_false] at ho
    rcases ho with rfl | rfl | rfl | rfl | rfl | rfl | rfl | rfl | rfl
    all_goals exact ⟨by decide, fun _ => rfl⟩
  clear eos
  refine s_pick os p1 (by rw [hol]; rfl) (by omega) (by omega) fun ix odd S2 e2 hix hv p2 k2 => ⟨_, e2, _, hix, ?_⟩
  obtain ⟨o1, o2⟩ := hos odd hv
  have r1 := cut_len (l.map Val.int) none (some at1)
  have r2 := cut_len (l.map Val.int) (some (at1 + 1)) none
  rw [List.length_map] at r1 r2
  have y1 : ∀ S u, u ∈ cut (l.map Val.int) none (some at1) → (tyN S u).isSome = true := fun S u hu => by
    obtain ⟨i, _, rfl⟩ := List.mem_map.mp (cut_mem hu)
    rfl
  have y2 : ∀ S u, u ∈ cut (l.map Val.int) (some (at1 + 1)) none → (tyN S u).isSome = true := fun S u hu => by
    obtain ⟨i, _, rfl⟩ := List.mem_map.mp (cut_mem hu)
    rfl
  simp only [B__law_no_row_3]
  simp only [execs, exec, ev, evs, evA, evO, evo, evc, evI, startE, asgT, setAll, truV, binS, cmpS, cmpI, isS, isNon_non, isNon_int, isNon_bl, isNon_tup, isNon_str, isNon_obj, biS, metS, metT, isiS, tyN, tyOk, ixS, slS, putS, alloc, wipeE, seqOf]
  simp
  refine ⟨by omega, by omega, ?_⟩
  simp only [B__law_no_row_4]
  simp only [execs, exec, ev, evs, evA, evO, evo, evc, evI, startE, asgT, setAll, truV, binS, cmpS, cmpI, isS, isNon_non, isNon_int, isNon_bl, isNon_tup, isNon_str, isNon_obj, biS, metS, metT, isiS, tyN, tyOk, ixS, slS, putS, alloc, wipeE, seqOf]
  simp
  obtain ⟨qs, eqs⟩ : ∃ qs, qs = [Val.non, Val.str (Str.ofString "none"), Val.int 0, Val.obj S2.length, Val.tup (cut (l.map Val.int) none (some at1) ++ odd :: cut (l.map Val.int) (some (at1 + 1)) none), Val.tup (List.replicate 101 (Val.int 1)), Val.obj (S2.length + 1), Val.tup [Val.tup [Val.int 1, Val.int (-1)]], Val.bl true] := ⟨_, rfl⟩
  have hqs : ∀ o ∈ qs, arB o = false ∧ GV (S2 ++ [Obj.lst (l.map Val.int), Obj.dic [], Obj.lst qs]) o := by
    intro o ho
    generalize Obj.lst qs = oo
    rw [eqs] at ho
    simp only [List.mem_cons, List.not_mem_nil, or_false] at ho
    rcases ho with rfl | rfl | rfl | rfl | rfl | rfl | rfl | rfl | rfl
    · exact ⟨rfl, GV_non rfl fun _ e => by cases e⟩
    · exact ⟨rfl, GV_non rfl fun _ e => by cases e⟩
    · exact ⟨rfl, GV_non rfl fun _ e => by cases e⟩
    · exact ⟨rfl, GV_new1⟩
    · refine ⟨?_, GV_tup fun u hu => ?_⟩
      · have e : ∀ vs, arB (.tup vs) = (decide (vs.length ≤ 100) && vs.all isSg) := fun _ => rfl
        rw [e, isSg_app o1, Bool.and_false]
      · rcases List.mem_append.mp hu with q | q
        · exact y1 _ u q
        · rcases List.mem_cons.mp q with rfl | q
          · exact o2 _
          · exact y2 _ u q
    · exact ⟨by decide, GV_flat (by decide)⟩
    · exact ⟨rfl, GV_new2⟩
    · exact ⟨by decide, GV_flat (by decide)⟩
    · exact ⟨rfl, GV_non rfl fun _ e => by cases e⟩
  have hql : qs.length = 9 := by rw [eqs]; rfl
  simp only [List.replicate] at eqs
  try rw [← eqs]
  clear eqs
  refine s_odd p2 (by rw [hql]; rfl) (by omega) (by omega) (fun o => arB o = false) hqs fun k v S3 e3 b1 f1 f2 p3 k3 => ?_
  exact ⟨qs, e3, v, b1, h v S3 f1 f2 p3 ((k1.trans k2).trans k3)⟩
theorem sgs_rep {x : Int} (h : x = 1 ∨ x = -1) (n : Nat) : List.replicate n (Val.int x) = (List.replicate n x).map .int ∧ sgs (List.replicate n x) := by
  refine ⟨by simp, fun i hi => ?_⟩
  rw [List.eq_of_mem_replicate hi]
  exact h
theorem s_row2 {n : Nat} {p : Nat} {most : Int} {S : Sto} {Q : QV} {X : QX} (hp : Pen S p) (h1 : 3 ≤ most) (h2 : most ≤ 100) (h : ∀ l S', sgs l → (l.length : Int) ≤ most → Pen S' p → Kp [p] S S' → Q (.tup (l.map .int)) S') : callN G (n + 3) "_law_row" [.obj p, .int most] S Q X := by
  refine ⟨_, G__law_row, rfl, ?_⟩
  simp only [execs, exec, ev, evs, evA, evO, evo, evc, evI, startE, asgT, setAll, truV, binS, cmpS, cmpI, isS, isNon_non, isNon_int, isNon_bl, isNon_tup, isNon_str, isNon_obj, biS, metS, metT, isiS, tyN, tyOk, ixS, slS, putS, alloc, wipeE, seqOf, F__law_row]
  simp
  refine s_size hp h1 fun many S1 a1 a2 p1 k1 => ?_
  refine s_draw p1 (by decide) (by decide) fun way S2 b1 b2 p2 k2 => ?_
  refine s_draw p2 (by decide) (by decide) fun blk S3 c1 c2 p3 k3 => ?_
  have k13 := (k1.trans k2).trans k3
  have rg : rgOk many := by unfold rgOk; omega
  simp [eqS, rg]
  by_cases w0 : way = 0
  · simp [w0]
    refine s_draw p3 (by decide) (by decide) fun x S4 x1 x2 p4 k4 => ?_
    have hm : mulOk 2 x := .inl ⟨by decide, by decide⟩
    obtain ⟨e, hs⟩ := sgs_rep (sg2 x1 x2) many.toNat
    simp [hm]
    rw [e]
    exact ⟨by omega, by omega, h _ S4 hs (by simp; omega) p4 (k13.trans k4)⟩
  · by_cases w1 : way = 1
    · simp [w1]
      rw [rgV_map]
      refine lcL_kpm (S0 := S3) (fun k : Nat => Val.int (0 + (k : Int))) (fun k : Nat => Val.int (1 - 2 * ((0 + (k : Int)) / (1 + blk) % 2))) (fun _ _ => trivial) _ _ _ .refl (fun k hk S4 K2 k4 hK => ?_) fun S4 k4 => ?_
      · have := hK S4 .refl
        simp at this
        simp [mulOk]
        exact ⟨by omega, by simpa using this⟩
      · rw [List.nil_append]
        refine ⟨_, rL0, ?_⟩
        have e : ((List.range many.toNat).map fun k : Nat => Val.int (1 - 2 * ((0 + (k : Int)) / (1 + blk) % 2))) = ((List.range many.toNat).map fun k : Nat => (1 - 2 * ((0 + (k : Int)) / (1 + blk) % 2))).map Val.int := by rw [List.map_map]; rfl
        have kk : Kp [p] S (S4 ++ [Obj.lst ((List.range many.toNat).map fun k : Nat => Val.int (1 - 2 * ((0 + (k : Int)) / (1 + blk) % 2)))]) := k13.trans ((k4.trans (Kp.app _)).mono (by simp))
        have pp : Pen (S4 ++ [Obj.lst ((List.range many.toNat).map fun k : Nat => Val.int (1 - 2 * ((0 + (k : Int)) / (1 + blk) % 2)))]) p := p3.keep (k4.trans (Kp.app _)) (by simp)
        generalize S4 ++ [Obj.lst ((List.range many.toNat).map fun k : Nat => Val.int (1 - 2 * ((0 + (k : Int)) / (1 + blk) % 2)))] = S5 at kk pp ⊢
        rw [e]
        refine h _ S5 (fun i hi => ?_) (by simp; omega) pp kk
        obtain ⟨k, _, rfl⟩ := List.mem_map.mp hi
        have q1 : 0 ≤ (0 + (k : Int)) / (1 + blk) % 2 := Int.emod_nonneg _ (by decide)
        have q2 : (0 + (k : Int)) / (1 + blk) % 2 < 2 := Int.emod_lt_of_pos _ (by decide)
        exact sg2 q1 q2
    · simp [w0, w1, rL0]
      obtain ⟨v, hv1, hv2⟩ := at_lt (l := [Val.int 2, .int 2, .int 3, .int 4]) (i := way - 2) (by omega) (by simp; omega)
      obtain ⟨of, rfl, o1, o2⟩ : ∃ of : Int, v = .int of ∧ 0 < of ∧ of < 5 := by
        simp at hv2
        rcases hv2 with rfl | rfl | rfl <;> exact ⟨_, rfl, by decide, by decide⟩
      refine ⟨_, hv1, ?_⟩
      rw [rgV_map]
      have p4 := p3.keep (Kp.app (ps := []) [Obj.lst [Val.int 2, .int 2, .int 3, .int 4]]) (by simp)
      have k4 : Kp [p] S (S3 ++ [Obj.lst [Val.int 2, .int 2, .int 3, .int 4]]) := k13.trans (Kp.app _)
      generalize S3 ++ [Obj.lst [Val.int 2, .int 2, .int 3, .int 4]] = S4 at p4 k4 ⊢
      refine lcL_dn (fun k : Nat => Val.int (0 + (k : Int))) _ (fun dn acc S' => ∃ l : List Int, acc = l.map .int ∧ sgs l ∧ l.length = dn.length ∧ Pen S' p ∧ Kp [p] S4 S') ?_ ?_ ⟨[], rfl, sgs_nil, rfl, p4, .refl⟩
      · rintro dn k td ed acc S5 K2 ⟨l, rfl, hs, hle, p5, k5⟩ hK
        refine ⟨trivial, ?_⟩
        refine s_draw p5 o1 (by omega) fun x S6 x1 x2 p6 k6 => ?_
        by_cases hx : x = 0
        · simp [hx, mulOk]
          refine hK _ _ ⟨l ++ [-1], by simp, fun i hi => ?_, by simp [hle], p6, k5.trans k6⟩
          rcases List.mem_append.mp hi with q | q
          · exact hs i q
          · simp at q
            exact .inr q
        · simp [hx, mulOk]
          refine hK _ _ ⟨l ++ [1], by simp, fun i hi => ?_, by simp [hle], p6, k5.trans k6⟩
          rcases List.mem_append.mp hi with q | q
          · exact hs i q
          · simp at q
            exact .inl q
      · rintro acc S5 ⟨l, rfl, hs, hle, p5, k5⟩
        refine ⟨trivial, ?_⟩
        rw [List.length_range] at hle
        exact h l _ hs (by omega) (p5.keep (Kp.app (ps := []) _) (by simp)) (k4.trans (k5.trans (Kp.app _)))
/-! rows and marks as texts -/
def ltr : Option Int → Nat
  | none => 63
  | some i => if 0 < i then 43 else 45
def ltS (x : Option Int) : Str := ⟨#[ltr x]⟩
def nonS : Str := Str.ofString "none"
def txt (ml : List (Option Int)) : Str := if ml = [] then nonS else ⟨(ml.map ltr).toArray⟩
def SgN (ml : List (Option Int)) : Prop := ∀ x ∈ ml, x = none ∨ x = some 1 ∨ x = some (-1)
theorem lt_q : Str.ofString "?" = ltS none := by decide
theorem lt_p : Str.ofString "+" = ltS (some 1) := by decide
theorem lt_m : Str.ofString "-" = ltS (some (-1)) := by decide
theorem fold_cps : ∀ (ps : List Str) (acc : Array Nat), (ps.foldl (fun acc p => acc ++ (Str.ofString "").cps ++ p.cps) acc).toList = acc.toList ++ (ps.map (·.cps.toList)).flatten
  | [], acc => by simp
  | p :: ps, acc => by
    rw [List.foldl_cons, fold_cps ps]
    have e : (Str.ofString "").cps = #[] := by decide
    rw [e]
    simp
theorem join0 (ps : List Str) : (Txt.join (Str.ofString "") ps).cps.toList = (ps.map (·.cps.toList)).flatten := by
  show ((ps.drop 1).foldl (fun acc p => acc ++ (Str.ofString "").cps ++ p.cps) (ps.headD Str.empty).cps).toList = _
  rw [fold_cps]
  cases ps with
  | nil => decide
  | cons p ps => simp
theorem join_ltr (ml : List (Option Int)) : Txt.join (Str.ofString "") (ml.map ltS) = ⟨(ml.map ltr).toArray⟩ := by
  have h := join0 (ml.map ltS)
  have e : (((ml.map ltS).map (·.cps.toList)).flatten) = ml.map ltr := by
    rw [List.map_map]
    induction ml with
    | nil => rfl
    | cons x ml ih => rw [List.map_cons, List.flatten_cons, ih (join0 _)]; rfl
  rw [e] at h
  have : (Txt.join (Str.ofString "") (ml.map ltS)).cps = (ml.map ltr).toArray := by rw [← h]
  rw [← this]
theorem strs_lt (ml : List (Option Int)) : strsOf (ml.map fun x => Val.str (ltS x)) = some (ml.map ltS) := by
  induction ml with
  | nil => rfl
  | cons x ml ih => rw [List.map_cons, strsOf, ih]; rfl
theorem lens_lt (ml : List (Option Int)) : ((ml.map ltS).map (·.length)).sum = ml.length := by
  induction ml with
  | nil => rfl
  | cons x ml ih =>
    rw [List.map_cons, List.map_cons, List.sum_cons, ih, List.length_cons]
    have : (ltS x).length = 1 := rfl
    omega
theorem sg_text {n : Nat} {x : Option Int} (hx : x = none ∨ x = some 1 ∨ x = some (-1)) {S : Sto} {Q : QV} {X : QX} (h : Q (.str (ltS x)) S) : callN G (n + 1) "sign_text" [mk x] S Q X := by
  refine ⟨_, G_sign_text, rfl, ?_⟩
  rcases hx with rfl | rfl | rfl
  · simp [execs, exec, ev, evs, evA, evO, evo, evc, evI, startE, asgT, setAll, truV, binS, cmpS, cmpI, isS, isNon_non, isNon_int, isNon_bl, isNon_tup, isNon_str, isNon_obj, biS, metS, metT, isiS, tyN, tyOk, ixS, slS, putS, alloc, wipeE, seqOf, F_sign_text, mk, isNon_non]
    rw [lt_q]
    exact h
  · simp [execs, exec, ev, evs, evA, evO, evo, evc, evI, startE, asgT, setAll, truV, binS, cmpS, cmpI, isS, isNon_non, isNon_int, isNon_bl, isNon_tup, isNon_str, isNon_obj, biS, metS, metT, isiS, tyN, tyOk, ixS, slS, putS, alloc, wipeE, seqOf, F_sign_text, mk, isNon_int]
    rw [lt_p]
    exact h
  · simp [execs, exec, ev, evs, evA, evO, evo, evc, evI, startE, asgT, setAll, truV, binS, cmpS, cmpI, isS, isNon_non, isNon_int, isNon_bl, isNon_tup, isNon_str, isNon_obj, biS, metS, metT, isiS, tyN, tyOk, ixS, slS, putS, alloc, wipeE, seqOf, F_sign_text, mk, isNon_int]
    rw [lt_m]
    exact h
theorem txt_len {ml : List (Option Int)} (h : ml ≠ []) : (txt ml).length = ml.length := by
  unfold txt
  rw [if_neg h]
  show (ml.map ltr).toArray.size = _
  simp
/-- the text or none -/
theorem or_none {ml : List (Option Int)} {P : Str → Prop} (hl : ml.length ≤ 100) (h : P (txt ml)) : (ml.length ≤ 16777216 ∧ ml.length = 0) ∧ P (Str.ofString "none") ∨ (ml.length ≤ 16777216 ∧ ¬ml.length = 0) ∧ P ⟨(ml.map ltr).toArray⟩ := by
  unfold txt nonS at h
  cases ml with
  | nil => exact .inl ⟨⟨by simp, rfl⟩, by simpa using h⟩
  | cons x ml => exact .inr ⟨⟨by omega, by simp⟩, by simpa using h⟩
theorem s_signs_text {n : Nat} {ml : List (Option Int)} {S : Sto} {Q : QV} {X : QX} (hm : SgN ml) (hl : ml.length ≤ 100) (h : ∀ S', Kp [] S S' → Q (.str (txt ml)) S') : callN G (n + 2) "signs_text" [.tup (ml.map mk)] S Q X := by
  refine ⟨_, G_signs_text, rfl, ?_⟩
  simp only [execs, exec, ev, evs, evA, evO, evo, evc, evI, startE, asgT, setAll, truV, binS, cmpS, cmpI, isS, isNon_non, isNon_int, isNon_bl, isNon_tup, isNon_str, isNon_obj, biS, metS, metT, isiS, tyN, tyOk, ixS, slS, putS, alloc, wipeE, seqOf, F_signs_text]
  simp
  refine lcL_kpm (S0 := S) mk (fun x => Val.str (ltS x)) (fun _ _ => trivial) _ _ _ .refl (fun x hx S1 K' k1 hK => sg_text (hm x hx) (hK _ .refl)) fun S1 k1 => ?_
  rw [List.nil_append]
  refine ⟨_, rL0, _, strs_lt ml, ?_, ?_⟩
  · rw [lens_lt, List.length_map]
    have : (Str.ofString "").length = 0 := by decide
    rw [this]
    omega
  rw [join_ltr]
  have hh := or_none (ml := ml) (P := fun z => Q (.str z) (S1 ++ [Obj.lst (ml.map fun x => Val.str (ltS x))])) hl (h _ (k1.trans (Kp.app _)))
  have e : (⟨(ml.map ltr).toArray⟩ : Str).length = ml.length := by
    show (ml.map ltr).toArray.size = _
    simp
  rw [e]
  exact hh
theorem mk_some (l : List Int) : l.map Val.int = (l.map some).map mk := by rw [List.map_map]; rfl
theorem SgN_some {l : List Int} (hs : sgs l) : SgN (l.map some) := fun x hx => by
  obtain ⟨i, hi, rfl⟩ := List.mem_map.mp hx
  rcases hs i hi with q | q <;> rw [q]
  · exact .inr (.inl rfl)
  · exact .inr (.inr rfl)
theorem s_row_text {n : Nat} {l : List Int} {S : Sto} {Q : QV} {X : QX} (hs : sgs l) (hl : l.length ≤ 100) (h : ∀ S', Kp [] S S' → Q (.str (txt (l.map some))) S') : callN G (n + 5) "row_text" [.tup (l.map .int)] S Q X := by
  refine ⟨_, G_row_text, rfl, ?_⟩
  simp only [execs, exec, ev, evs, evA, evO, evo, evc, evI, startE, asgT, setAll, truV, binS, cmpS, cmpI, isS, isNon_non, isNon_int, isNon_bl, isNon_tup, isNon_str, isNon_obj, biS, metS, metT, isiS, tyN, tyOk, ixS, slS, putS, alloc, wipeE, seqOf, F_row_text]
  simp
  refine s_need_row hs hl fun S1 k1 => ?_
  try simp
  rw [mk_some]
  exact s_signs_text (SgN_some hs) (by rw [List.length_map]; exact hl) fun S2 k2 => h S2 (k1.trans k2)
theorem x_row_text {n : Nat} {v : Val} {S : Sto} {Q : QV} {X : QX} (hb : arB v = false) (hg : GV S v) (h : ∀ S', Kp [] S S' → X ⟨"NoRow", []⟩ S') : callN G (n + 5) "row_text" [v] S Q X := by
  refine ⟨_, G_row_text, rfl, ?_⟩
  simp only [execs, exec, ev, evs, evA, evO, evo, evc, evI, startE, asgT, setAll, truV, binS, cmpS, cmpI, isS, isNon_non, isNon_int, isNon_bl, isNon_tup, isNon_str, isNon_obj, biS, metS, metT, isiS, tyN, tyOk, ixS, slS, putS, alloc, wipeE, seqOf, F_row_text]
  simp
  exact s_need_row_bad hb hg h
theorem s_marks_text {n : Nat} {ml : List (Option Int)} {S : Sto} {Q : QV} {X : QX} (hm : Mks ml) (h : ∀ S', Kp [] S S' → Q (.str (txt ml)) S') : callN G (n + 5) "marks_text" [.tup (ml.map mk)] S Q X := by
  refine ⟨_, G_marks_text, rfl, ?_⟩
  simp only [execs, exec, ev, evs, evA, evO, evo, evc, evI, startE, asgT, setAll, truV, binS, cmpS, cmpI, isS, isNon_non, isNon_int, isNon_bl, isNon_tup, isNon_str, isNon_obj, biS, metS, metT, isiS, tyN, tyOk, ixS, slS, putS, alloc, wipeE, seqOf, F_marks_text]
  simp
  refine s_need_marks hm fun S1 k1 => ?_
  try simp
  exact s_signs_text hm.sg (by have := hm.len; omega) fun S2 k2 => h S2 (k1.trans k2)
theorem x_marks_text {n : Nat} {v : Val} {S : Sto} {Q : QV} {X : QX} (hb : amB v = false) (hg : GV S v) (h : ∀ S', Kp [] S S' → X ⟨"NoMarks", []⟩ S') : callN G (n + 5) "marks_text" [v] S Q X := by
  refine ⟨_, G_marks_text, rfl, ?_⟩
  simp only [execs, exec, ev, evs, evA, evO, evo, evc, evI, startE, asgT, setAll, truV, binS, cmpS, cmpI, isS, isNon_non, isNon_int, isNon_bl, isNon_tup, isNon_str, isNon_obj, biS, metS, metT, isiS, tyN, tyOk, ixS, slS, putS, alloc, wipeE, seqOf, F_marks_text]
  simp
  exact s_need_marks_bad hb hg h
/-! what a text writes -/
def SIGD : List (Ky × Val) := [(.inr (Str.ofString "+"), .int 1), (.inr (Str.ofString "-"), .int (-1))]
def MARD : List (Ky × Val) := [(.inr (Str.ofString "+"), .int 1), (.inr (Str.ofString "-"), .int (-1)), (.inr (Str.ofString "?"), .non)]
def chS (c : Nat) : Str := ⟨#[c]⟩
def okC (kvs : List (Ky × Val)) (c : Nat) : Bool := (valD kvs (.inr (chS c))).isSome
def deC (kvs : List (Ky × Val)) (c : Nat) : Val := (valD kvs (.inr (chS c))).getD .non
theorem getD_at5 {S S' : Sto} {n : Nat} {l : List (Ky × Val)} (h : getD S n = some l) (k : Kp [] S S') : getD S' n = some l := by
  have hl : n < S.length := by
    unfold getD at h
    split at h
    · rename_i e
      exact (List.getElem?_eq_some_iff.mp e).1
    · cases h
  unfold getD at h ⊢
  rw [k.2 n hl (by simp)]
  exact h
theorem s_signs_in {n D : Nat} {z : Str} {kvs : List (Ky × Val)} {most : Int} {S : Sto} {Q : QV} {X : QX} (gD : getD S D = some kvs) (hz : z.length ≤ 1000000)
    (h1 : z = nonS → ∀ S', Kp [] S S' → Q (.tup []) S')
    (h2 : z ≠ nonS → 1 ≤ z.length → (z.length : Int) ≤ most → (z.cps.toList.all (okC kvs)) = true → ∀ S', Kp [] S S' → Q (.tup (z.cps.toList.map (deC kvs))) S')
    (h3 : z ≠ nonS → ¬ (1 ≤ z.length ∧ (z.length : Int) ≤ most ∧ (z.cps.toList.all (okC kvs)) = true) → ∀ S', Kp [] S S' → X ⟨"NoText", []⟩ S') : callN G (n + 1) "signs_in" [.str z, .obj D, .int most] S Q X := by
  refine ⟨_, G_signs_in, rfl, ?_⟩
  simp only [execs, exec, ev, evs, evA, evO, evo, evc, evI, startE, asgT, setAll, truV, binS, cmpS, cmpI, isS, isNon_non, isNon_int, isNon_bl, isNon_tup, isNon_str, isNon_obj, biS, metS, metT, isiS, tyN, tyOk, ixS, slS, putS, alloc, wipeE, seqOf, F_signs_in]
  simp
  simp only [eqS]
  by_cases c : z = nonS
  · have c' : z = Str.ofString "none" := c
    simp [c']
    exact h1 c S .refl
  · have c' : ¬ z = Str.ofString "none" := c
    simp [c']
    have hz1 : z.length ≤ 16777216 := by omega
    have hz2 : z.cps.size ≤ 16777216 := hz1
    refine ⟨hz1, ?_⟩
    by_cases a1 : 1 ≤ z.length
    · rw [if_pos (by omega)]
      by_cases a2 : (z.length : Int) ≤ most
      · refine .inl ⟨a2, hz2, ?_⟩
        refine lcL_kpm (S0 := S) (fun c => Val.str (chS c)) (fun c => Val.bl (okC kvs c)) (fun _ _ => trivial) _ _ _ .refl (fun c hc S1 K' k1 hK => ⟨_, getD_at5 gD k1, _, rfl, hK _ .refl⟩) fun S1 k1 => ?_
        rw [List.nil_append]
        refine ⟨_, rL0, _, bls_map (okC kvs) _, ?_⟩
        have kA := k1.trans (Kp.app (ps := []) [Obj.lst (z.cps.toList.map fun c => Val.bl (okC kvs c))])
        by_cases a3 : z.cps.toList.all (okC kvs) = true
        · have a4 := List.all_eq_true.mp a3
          refine .inl ⟨fun hm => ?_, hz2, ?_⟩
          · obtain ⟨c, hc, e⟩ := List.mem_map.mp hm
            rw [a4 c hc] at e
            cases e
          · refine lcL_kpm (S0 := S1 ++ [Obj.lst (z.cps.toList.map fun c => Val.bl (okC kvs c))]) (fun c => Val.str (chS c)) (deC kvs) (fun _ _ => trivial) _ _ _ .refl (fun c hc S2 K' k2 hK => ?_) fun S2 k2 => ?_
            · have := a4 c hc
              unfold okC at this
              obtain ⟨v, ev⟩ := Option.isSome_iff_exists.mp this
              have e2 : deC kvs c = v := by unfold deC; rw [ev]; rfl
              have := hK _ .refl
              rw [e2] at this
              exact ⟨_, getD_at5 gD (kA.trans k2), _, rfl, _, ev, this⟩
            · rw [List.nil_append]
              exact ⟨_, rL0, h2 c a1 a2 a3 _ ((kA.trans k2).trans (Kp.app _))⟩
        · refine .inr ⟨?_, h3 c (fun q => a3 q.2.2) _ kA⟩
          have a5 : z.cps.toList.all (okC kvs) = false := by simpa using a3
          obtain ⟨c, hc, e⟩ := List.all_eq_false.mp a5
          exact List.mem_map.mpr ⟨c, hc, by simpa using e⟩
      · have a2' : most < (z.length : Int) := by omega
        exact .inr ⟨a2', .inr ⟨a2', h3 c (fun q => a2 q.2.1) S .refl⟩⟩
    · rw [if_neg (by omega)]
      exact h3 c (fun q => a1 q.1) S .refl
theorem dec_lt {x : Option Int} (hx : x = none ∨ x = some 1 ∨ x = some (-1)) : valD MARD (.inr (ltS x)) = some (mk x) := by
  rcases hx with rfl | rfl | rfl <;> rfl
theorem dec_sg {i : Int} (hx : i = 1 ∨ i = -1) : valD SIGD (.inr (ltS (some i))) = some (.int i) := by
  rcases hx with rfl | rfl <;> rfl
theorem txt_cps {ml : List (Option Int)} (h : ml ≠ []) : (txt ml).cps.toList = ml.map ltr := by
  unfold txt
  rw [if_neg h]
theorem txt_ne {ml : List (Option Int)} (h : ml ≠ []) : txt ml ≠ nonS := fun e => by
  have h1 := txt_cps h
  rw [e] at h1
  cases ml with
  | nil => exact h rfl
  | cons x ml =>
    have h2 : nonS.cps.toList = [110, 111, 110, 101] := by decide
    rw [h2, List.map_cons] at h1
    have h3 : 110 = ltr x := (List.cons.inj h1).1
    unfold ltr at h3
    split at h3
    · cases h3
    · split at h3 <;> cases h3
theorem s_read {n D : Nat} {ml : List (Option Int)} {kvs : List (Ky × Val)} {most : Int} {S : Sto} {Q : QV} {X : QX} (gD : getD S D = some kvs) (hk : ∀ x ∈ ml, valD kvs (.inr (ltS x)) = some (mk x)) (hl : (ml.length : Int) ≤ most) (hm : most ≤ 1000)
    (h : ∀ S', Kp [] S S' → Q (.tup (ml.map mk)) S') : callN G (n + 1) "signs_in" [.str (txt ml), .obj D, .int most] S Q X := by
  have hk' : ∀ x ∈ ml, valD kvs (.inr (chS (ltr x))) = some (mk x) := hk
  by_cases c : ml = []
  · subst c
    exact s_signs_in gD (by decide) (fun _ S' k => h S' k) (fun e => absurd rfl e) (fun e => absurd rfl e)
  · have e1 := txt_len c
    have e2 := txt_cps c
    have e3 : (txt ml).cps.toList.all (okC kvs) = true := by
      rw [e2, List.all_eq_true]
      intro y hy
      obtain ⟨x, hx, rfl⟩ := List.mem_map.mp hy
      unfold okC
      rw [hk' x hx]
      rfl
    have e4 : (txt ml).cps.toList.map (deC kvs) = ml.map mk := by
      rw [e2, List.map_map]
      refine List.map_congr_left fun x hx => ?_
      show deC kvs (ltr x) = _
      unfold deC
      rw [hk' x hx]
      rfl
    have e5 : 1 ≤ ml.length := List.length_pos_iff.mpr c
    refine s_signs_in gD (by omega) (fun e => absurd e (txt_ne c)) (fun _ _ _ _ S' k => ?_) (fun _ e => absurd ⟨by omega, by omega, e3⟩ e)
    rw [e4]
    exact h S' k
theorem gD0 {S T : Sto} {l : List (Ky × Val)} : getD (S ++ .dic l :: T) S.length = some l := by unfold getD; rw [List.getElem?_append_right (Nat.le_refl _), Nat.sub_self]; rfl
theorem s_row_read {n : Nat} {l : List Int} {S : Sto} {Q : QV} {X : QX} (hs : sgs l) (hl : l.length ≤ 100) (h : ∀ S', Kp [] S S' → Q (.tup (l.map .int)) S') : callN G (n + 2) "row_read" [.str (txt (l.map some))] S Q X := by
  refine ⟨_, G_row_read, rfl, ?_⟩
  simp only [execs, exec, ev, evs, evA, evO, evo, evc, evI, startE, asgT, setAll, truV, binS, cmpS, cmpI, isS, isNon_non, isNon_int, isNon_bl, isNon_tup, isNon_str, isNon_obj, biS, metS, metT, isiS, tyN, tyOk, ixS, slS, putS, alloc, wipeE, seqOf, F_row_read]
  simp
  refine s_read (kvs := SIGD) gD0 (fun x hx => ?_) (by rw [List.length_map]; omega) (by omega) fun S1 k1 => ?_
  · obtain ⟨i, hi, rfl⟩ := List.mem_map.mp hx
    exact dec_sg (hs i hi)
  · rw [← mk_some]
    exact h S1 ((Kp.app _).trans k1)
theorem s_marks_read {n : Nat} {ml : List (Option Int)} {S : Sto} {Q : QV} {X : QX} (hm : Mks ml) (h : ∀ S', Kp [] S S' → Q (.tup (ml.map mk)) S') : callN G (n + 2) "marks_read" [.str (txt ml)] S Q X := by
  refine ⟨_, G_marks_read, rfl, ?_⟩
  simp only [execs, exec, ev, evs, evA, evO, evo, evc, evI, startE, asgT, setAll, truV, binS, cmpS, cmpI, isS, isNon_non, isNon_int, isNon_bl, isNon_tup, isNon_str, isNon_obj, biS, metS, metT, isiS, tyN, tyOk, ixS, slS, putS, alloc, wipeE, seqOf, F_marks_read]
  simp
  refine s_read (kvs := MARD) gD0 (fun x hx => dec_lt (hm.sg x hx)) (by have := hm.len; omega) (by omega) fun S1 k1 => h S1 ((Kp.app _).trans k1)
theorem s_lsigns_text {n : Nat} {ml : List (Option Int)} {S : Sto} {Q : QV} {X : QX} (hm : SgN ml) (hl : ml.length ≤ 100) (h : ∀ S', Kp [] S S' → Q (.str (txt ml)) S') : callN G (n + 1) "_law_signs_text" [.tup (ml.map mk)] S Q X := by
  refine ⟨_, G__law_signs_text, rfl, ?_⟩
  simp only [execs, exec, ev, evs, evA, evO, evo, evc, evI, startE, asgT, setAll, truV, binS, cmpS, cmpI, isS, isNon_non, isNon_int, isNon_bl, isNon_tup, isNon_str, isNon_obj, biS, metS, metT, isiS, tyN, tyOk, ixS, slS, putS, alloc, wipeE, seqOf, F__law_signs_text]
  simp
  refine lcL_kpm (S0 := S) mk (fun x => Val.str (ltS x)) (fun _ _ => trivial) _ _ _ .refl (fun x hx S1 K' k1 hK => ?_) fun S1 k1 => ?_
  · have hh := hK _ .refl
    rcases hm x hx with rfl | rfl | rfl
    · simp [mk, isNon_non]
      rw [lt_q]
      exact hh
    · simp [mk, isNon_int]
      exact ⟨by decide, 43, by decide, hh⟩
    · simp [mk, isNon_int]
      exact ⟨by decide, 45, by decide, hh⟩
  rw [List.nil_append]
  refine ⟨_, rL0, _, strs_lt ml, ?_, ?_⟩
  · rw [lens_lt, List.length_map]
    have : (Str.ofString "").length = 0 := by decide
    rw [this]
    omega
  rw [join_ltr]
  have hh := or_none (ml := ml) (P := fun z => Q (.str z) (S1 ++ [Obj.lst (ml.map fun x => Val.str (ltS x))])) hl (h _ (k1.trans (Kp.app _)))
  have e : (⟨(ml.map ltr).toArray⟩ : Str).length = ml.length := by
    show (ml.map ltr).toArray.size = _
    simp
  rw [e]
  exact hh
theorem txt_ok {ml : List (Option Int)} : PyData.strOk (txt ml) = true := by
  by_cases c : ml = []
  · subst c
    decide +kernel
  · have e := txt_cps c
    unfold PyData.strOk
    rw [← Array.all_toList, e, List.all_eq_true]
    intro y hy
    obtain ⟨x, _, rfl⟩ := List.mem_map.mp hy
    unfold ltr
    split
    · decide
    · split <;> decide
theorem toD_str {n : Nat} {S : Sto} {z : Str} (h : PyData.strOk z = true) : toD (n + 1) S (.str z) = some (.str z) := by
  show (if PyData.strOk z = true then some (PyData.str z) else none) = _
  rw [if_pos h]
theorem nice_str {z : Str} {w : Nat} (ho : PyData.strOk z = true) (h : z.length ≤ w) : Nice w 0 (.str z) := ⟨by simp [PyData.showable], by simp [PyData.canLay0, ho], by simp [PyData.intsShort], h, by simp [PyData.depth]⟩
theorem txt_len2 {ml : List (Option Int)} (h : ml.length ≤ 100) : (txt ml).length ≤ 100 := by
  by_cases c : ml = []
  · subst c
    decide
  · rw [txt_len c]
    exact h
theorem okD_txt {ml : List (Option Int)} (h : ml.length ≤ 100) : okD (.str (txt ml)) := okD_nice (nice_str txt_ok (txt_len2 h)) (by decide) (by decide)
def mkD1 : Option Int → PyData
  | none => .none
  | some i => .int i
theorem toD_mk {n : Nat} {S : Sto} (x : Option Int) : toD (n + 1) S (mk x) = some (mkD1 x) := by
  cases x with
  | none => exact toD_non
  | some i => exact toD_int
theorem toD_mks {n : Nat} {S : Sto} (ml : List (Option Int)) : toD (n + 2) S (.tup (ml.map mk)) = some (.tuple (ml.map mkD1)) := toD_tupOf (g := mk) (d := mkD1) toD_mk
theorem okD_mks {ml : List (Option Int)} (hm : SgN ml) (h : ml.length ≤ 100) : okD (.tuple (ml.map mkD1)) := by
  refine okD_nice (nice_tup (w := 41) (dp := 0) (m := 100) (fun d hd => ?_) (by rw [List.length_map]; exact h)) (by decide) (by decide)
  obtain ⟨x, hx, rfl⟩ := List.mem_map.mp hd
  rcases hm x hx with rfl | rfl | rfl
  · exact nice_non.mono (by decide) (by decide)
  · exact nice_int (by decide)
  · exact nice_int (by decide)
theorem s_lmarks80 {n p : Nat} {S : Sto} {Q : QV} {X : QX} (hp : Pen S p) (h : ∀ ml S', Mks ml → Pen S' p → Kp [p] S S' → Q (.tup (ml.map mk)) S') : callN G (n + 3) "_law_marks" [.obj p] S Q X := by
  refine ⟨_, G__law_marks, rfl, ?_⟩
  simp only [execs, exec, ev, evs, evA, evO, evo, evc, evI, startE, asgT, setAll, truV, binS, cmpS, cmpI, isS, isNon_non, isNon_int, isNon_bl, isNon_tup, isNon_str, isNon_obj, biS, metS, metT, isiS, tyN, tyOk, ixS, slS, putS, alloc, wipeE, seqOf, F__law_marks]
  simp
  refine s_size hp (by decide) fun many S1 a1 a2 p1 k1 => ?_
  have rg : rgOk many := by unfold rgOk; omega
  simp [rg]
  try rw [rgV_map]
  refine lcL_dn _ _ (fun dn acc S2 => ∃ ml : List (Option Int), acc = ml.map mk ∧ ml.length = dn.length ∧ SgN ml ∧ Pen S2 p ∧ Kp [p] S1 S2) ?_ ?_ ⟨[], rfl, rfl, fun x hx => (by cases hx), p1, .refl⟩
  · rintro dn j td ed acc S2 K' ⟨ml, rfl, e1, e2, p2, k2⟩ hK
    refine ⟨trivial, ?_⟩
    refine s_pick [.int 1, .int (-1), .non, .non] p2 rfl (by simp) (by simp) fun ix v S3 e3 hix hv p3 k3 => ⟨_, e3, _, hix, ?_⟩
    obtain ⟨x, rfl, hx⟩ : ∃ x : Option Int, v = mk x ∧ (x = none ∨ x = some 1 ∨ x = some (-1)) := by
      simp at hv
      rcases hv with rfl | rfl | rfl
      · exact ⟨some 1, rfl, .inr (.inl rfl)⟩
      · exact ⟨some (-1), rfl, .inr (.inr rfl)⟩
      · exact ⟨none, rfl, .inl rfl⟩
    refine hK (some _) _ ⟨ml ++ [x], by simp, by simp [e1], fun y hy => ?_, p3, k2.trans k3⟩
    rcases List.mem_append.mp hy with q | q
    · exact e2 y q
    · simp at q
      rw [q]
      exact hx
  · rintro acc S2 ⟨ml, rfl, e1, e2, p2, k2⟩
    refine ⟨trivial, ?_⟩
    refine ⟨_, rL0, ?_⟩
    rw [List.length_range] at e1
    exact h ml _ ⟨by omega, e2⟩ (p2.keep (Kp.app (ps := []) _) (by simp)) ((k1.trans k2).trans (Kp.app _))
theorem isM_app {a b : List Val} {o : Val} (h : (isNon o || isSg o) = false) : (a ++ o :: b).all (fun u => isNon u || isSg u) = false := by
  rw [List.all_append, List.all_cons, h]
  simp
/-- a tuple of signs, or of marks -/
theorem mks_row {l : List Int} (hs : sgs l) (hl : l.length ≤ 40) : Mks (l.map some) := ⟨by rw [List.length_map]; exact hl, SgN_some hs⟩
theorem cut_40 {l : List Int} : cut l none (some 40) = l.take 40 := by
  unfold cut
  have e1 : HT.sIx l.length 0 none = 0 := rfl
  have e2 : HT.sIx l.length l.length (some 40) = min 40 l.length := by
    unfold HT.sIx
    simp
  rw [e1, e2, List.drop_zero, Nat.sub_zero, ← List.take_eq_take_min]
theorem law_k80 {n : Nat} {ns : List Int} (hns : ns.length ≤ 63) {S0 : Sto} (hs : rdL S0 0 = some (ns.map .int)) : callN G (n + 7) "law" [.obj 0] S0 (fun v _ => v = .bl true) fun _ _ => False := by
  refine ⟨_, G_law, rfl, ?_⟩
  simp only [execs, exec, ev, evs, evA, evO, evo, evc, evI, startE, asgT, setAll, truV, binS, cmpS, cmpI, isS, isNon_non, isNon_int, isNon_bl, isNon_tup, isNon_str, isNon_obj, biS, metS, metT, isiS, tyN, tyOk, ixS, slS, putS, alloc, wipeE, seqOf, F_law]
  simp
  refine s_cell (k := 0) hs fun c0 => ?_
  simp [rLo hs, gL0, gL1, rL2]
  refine ⟨by have := cut_le (a := some 1) (b := some 4) hns; omega, ?_⟩
  have hit := cells_ok (c0 := c0) (ns := ns) (a := some 1) (b := some 4)
  generalize Val.int c0 :: cut (ns.map Val.int) (some 1) (some 4) = its at hit ⊢
  refine forL_rule (fun rest r S => (∀ v ∈ rest, ∃ c, v = .int c) ∧ (∃ w1 w2 w3 w4 w5 w6 w7 w8 w9 w10, r = [some (.obj 0), w1, w2, w3, w4, w5, w6, w7, w8, w9, w10]) ∧ rdL S (S0.length + 2) = some its) ?_ ?_ _ _ _ ⟨hit, ⟨_, _, _, _, _, _, _, _, _, _, rfl⟩, rL2⟩
  · rintro v rest r S K' ⟨hv, ⟨w1, w2, w3, w4, w5, w6, w7, w8, w9, w10, rfl⟩, hS⟩ hk
    obtain ⟨c, rfl⟩ := hv v List.mem_cons_self
    refine ⟨hS, ?_⟩
    replace hk : ∀ (w2 w3 w4 w5 w6 w7 w8 w9 w10 : Option Val) (S' : Sto), Kp [] S S' → K' [some (.obj 0), some (.int c), w2, w3, w4, w5, w6, w7, w8, w9, w10] S' := fun w2 w3 w4 w5 w6 w7 w8 w9 w10 S' k => hk _ _ ⟨fun u hu => hv u (List.mem_cons_of_mem _ hu), ⟨_, _, _, _, _, _, _, _, _, _, rfl⟩, k.rdL hS (by simp)⟩
    clear hv hS hit
    simp [execs, exec, ev, evs, evA, evO, evo, evc, evI, startE, asgT, setAll, truV, binS, cmpS, cmpI, isS, isNon_non, isNon_int, isNon_bl, isNon_tup, isNon_str, isNon_obj, biS, metS, metT, isiS, tyN, tyOk, ixS, slS, putS, alloc, wipeE, seqOf]
    refine s_pen fun p S1 hp p1 k1 => ?_
    simp only [B_law_3]
    simp [execs, exec, ev, evs, evA, evO, evo, evc, evI, startE, asgT, setAll, truV, binS, cmpS, cmpI, isS, isNon_non, isNon_int, isNon_bl, isNon_tup, isNon_str, isNon_obj, biS, metS, metT, isiS, tyN, tyOk, ixS, slS, putS, alloc, wipeE, seqOf]
    refine s_row2 p1 (by decide) (by decide) fun row S2 sl ll p2 k2 => ?_
    refine s_lmarks80 p2 fun ml S3 hml p3 k3 => ?_
    simp only [B_law_4]
    simp [execs, exec, ev, evs, evA, evO, evo, evc, evI, startE, asgT, setAll, truV, binS, cmpS, cmpI, isS, isNon_non, isNon_int, isNon_bl, isNon_tup, isNon_str, isNon_obj, biS, metS, metT, isiS, tyN, tyOk, ixS, slS, putS, alloc, wipeE, seqOf, -List.reduceReplicate]
    have hpn : p < S3.length := by obtain ⟨_, _, e, _⟩ := p3; exact getL_lt e
    have ll2 : row.length ≤ 100 := by omega
    have e4 : rdL (S3 ++ [Obj.lst [Val.tup (row.map Val.int), Val.tup [], Val.tup (List.replicate 100 (Val.int 1)), Val.tup [Val.int (-1)]]]) S3.length = some [Val.tup (row.map Val.int), Val.tup [], Val.tup (List.replicate 100 (Val.int 1)), Val.tup [Val.int (-1)]] := rL0
    have p4 := p3.keep (Kp.app (ps := []) [Obj.lst [Val.tup (row.map Val.int), Val.tup [], Val.tup (List.replicate 100 (Val.int 1)), Val.tup [Val.int (-1)]]]) (by simp)
    have k4 : Kp [] S (S3 ++ [Obj.lst [Val.tup (row.map Val.int), Val.tup [], Val.tup (List.replicate 100 (Val.int 1)), Val.tup [Val.int (-1)]]]) := k1.young ((k2.trans k3).trans (Kp.app _)) (by simp; omega)
    have hits : ∀ v ∈ [Val.tup (row.map Val.int), Val.tup [], Val.tup (List.replicate 100 (Val.int 1)), Val.tup [Val.int (-1)]], ∃ l : List Int, v = .tup (l.map .int) ∧ sgs l ∧ l.length ≤ 100 := by
      intro v hv
      simp only [List.mem_cons, List.not_mem_nil, or_false] at hv
      rcases hv with rfl | rfl | rfl | rfl
      · exact ⟨row, rfl, sl, ll2⟩
      · exact ⟨[], rfl, fun i hi => (by cases hi), by decide⟩
      · exact ⟨List.replicate 100 1, by rw [List.map_replicate], fun i hi => .inl (List.eq_of_mem_replicate hi), by simp⟩
      · exact ⟨[-1], rfl, fun i hi => (by simp at hi; exact .inr hi), by decide⟩
    generalize [Val.tup (row.map Val.int), Val.tup [], Val.tup (List.replicate 100 (Val.int 1)), Val.tup [Val.int (-1)]] = items at e4 p4 k4 hits ⊢
    generalize S3 ++ [Obj.lst items] = S4 at e4 p4 k4 ⊢
    generalize S3.length = it at e4 hpn ⊢
    refine ⟨_, e4, ?_⟩
    refine forL_rule (fun rest r S' => (∀ v ∈ rest, ∃ l : List Int, v = .tup (l.map .int) ∧ sgs l ∧ l.length ≤ 100) ∧ (∃ w5, r = [some (.obj 0), some (.int c), some (.obj p), some (.tup (row.map .int)), some (.tup (ml.map mk)), w5, w6, w7, w8, w9, w10]) ∧ rdL S' it = some items ∧ Pen S' p ∧ Kp [] S S') ?_ ?_ _ _ _ ⟨hits, ⟨_, rfl⟩, e4, p4, k4⟩
    · rintro v rest r S5 K2 ⟨hv, ⟨w5, rfl⟩, e5, p5, k5⟩ hk2
      obtain ⟨l, rfl, s1, l1⟩ := hv v List.mem_cons_self
      refine ⟨e5, ?_⟩
      simp
      refine s_row_text s1 l1 fun S6 k6 => ?_
      rw [mk_some]
      refine s_lsigns_text (SgN_some s1) (by rw [List.length_map]; exact l1) fun S7 k7 => ?_
      have lk : (l.map some).length ≤ 100 := by rw [List.length_map]; exact l1
      refine s_same (toD_str (n := 59) txt_ok) (toD_str (n := 59) txt_ok) (okD_txt lk) ?_
      simp only [B_law_7]
      simp [execs, exec, ev, evs, evA, evO, evo, evc, evI, startE, asgT, setAll, truV, binS, cmpS, cmpI, isS, isNon_non, isNon_int, isNon_bl, isNon_tup, isNon_str, isNon_obj, biS, metS, metT, isiS, tyN, tyOk, ixS, slS, putS, alloc, wipeE, seqOf]
      have emk : l.map (mk ∘ some) = (l.map some).map mk := by rw [List.map_map]
      try rw [emk]
      refine s_lsigns_text (SgN_some s1) lk fun S8 k8 => ?_
      refine s_row_read s1 l1 fun S9 k9 => ?_
      rw [← mk_some]
      refine s_same (toD_tup (n := 58)) (toD_tup (n := 58)) (okD_ints (sgs_small s1) (by omega)).2 ?_
      simp
      have kk := k6.trans (k7.trans (k8.trans k9))
      exact hk2 _ _ ⟨fun u hu => hv u (List.mem_cons_of_mem _ hu), ⟨_, rfl⟩, kk.rdL e5 (by simp), p5.keep kk (by simp), k5.trans kk⟩
    · rintro r S5 ⟨_, ⟨w5, rfl⟩, e5, p5, k5⟩
      refine ⟨e5, ?_⟩
      clear hits e4 p4 k4 e5
      simp only [B_law_9]
      simp [execs, exec, ev, evs, evA, evO, evo, evc, evI, startE, asgT, setAll, truV, binS, cmpS, cmpI, isS, isNon_non, isNon_int, isNon_bl, isNon_tup, isNon_str, isNon_obj, biS, metS, metT, isiS, tyN, tyOk, ixS, slS, putS, alloc, wipeE, seqOf, -List.reduceReplicate]
      have hpn : p < S5.length := by obtain ⟨_, _, e, _⟩ := p5; exact getL_lt e
      have hpS : S.length ≤ p := hp
      have e0 : cut (row.map Val.int) none (some 40) = ((row.take 40).map some).map mk := by rw [cut_map, cut_40, mk_some]
      rw [e0]
      have e6 : rdL (S5 ++ [Obj.lst [Val.tup (ml.map mk), Val.tup (List.replicate 40 Val.non), Val.tup [], Val.tup (((row.take 40).map some).map mk)]]) S5.length = some [Val.tup (ml.map mk), Val.tup (List.replicate 40 Val.non), Val.tup [], Val.tup (((row.take 40).map some).map mk)] := rL0
      have p6 := p5.keep (Kp.app (ps := []) [Obj.lst [Val.tup (ml.map mk), Val.tup (List.replicate 40 Val.non), Val.tup [], Val.tup (((row.take 40).map some).map mk)]]) (by simp)
      have k6 : Kp [] S (S5 ++ [Obj.lst [Val.tup (ml.map mk), Val.tup (List.replicate 40 Val.non), Val.tup [], Val.tup (((row.take 40).map some).map mk)]]) := k5.trans (Kp.app _)
      have hits : ∀ v ∈ [Val.tup (ml.map mk), Val.tup (List.replicate 40 Val.non), Val.tup [], Val.tup (((row.take 40).map some).map mk)], ∃ l : List (Option Int), v = .tup (l.map mk) ∧ Mks l := by
        intro v hv
        simp only [List.mem_cons, List.not_mem_nil, or_false] at hv
        rcases hv with rfl | rfl | rfl | rfl
        · exact ⟨ml, rfl, hml⟩
        · exact ⟨List.replicate 40 none, by rw [List.map_replicate]; rfl, by simp, fun x hx => .inl (List.eq_of_mem_replicate hx)⟩
        · exact ⟨[], rfl, by decide, fun x hx => (by cases hx)⟩
        · exact ⟨_, rfl, mks_row (fun i hi => sl i (List.mem_of_mem_take hi)) (by rw [List.length_take]; omega)⟩
      generalize [Val.tup (ml.map mk), Val.tup (List.replicate 40 Val.non), Val.tup [], Val.tup (((row.take 40).map some).map mk)] = items at e6 p6 k6 hits ⊢
      generalize S5 ++ [Obj.lst items] = S6 at e6 p6 k6 ⊢
      generalize S5.length = it at e6 hpn ⊢
      clear p5 k5
      refine ⟨_, e6, ?_⟩
      refine forL_rule (fun rest r S' => (∀ v ∈ rest, ∃ l : List (Option Int), v = .tup (l.map mk) ∧ Mks l) ∧ (∃ w5, r = [some (.obj 0), some (.int c), some (.obj p), some (.tup (row.map .int)), some (.tup (ml.map mk)), w5, w6, w7, w8, w9, w10]) ∧ rdL S' it = some items ∧ Pen S' p ∧ Kp [] S S') ?_ ?_ _ _ _ ⟨hits, ⟨_, rfl⟩, e6, p6, k6⟩
      · rintro v rest r S7 K2 ⟨hv, ⟨w5, rfl⟩, e7, p7, k7⟩ hk2
        obtain ⟨l, rfl, hl⟩ := hv v List.mem_cons_self
        have hl1 : l.length ≤ 100 := by have := hl.len; omega
        refine ⟨e7, ?_⟩
        simp
        refine s_marks_text hl fun S8 k8 => ?_
        refine s_lsigns_text hl.sg hl1 fun S9 k9 => ?_
        refine s_same (toD_str (n := 59) txt_ok) (toD_str (n := 59) txt_ok) (okD_txt hl1) ?_
        simp only [B_law_12]
        simp [execs, exec, ev, evs, evA, evO, evo, evc, evI, startE, asgT, setAll, truV, binS, cmpS, cmpI, isS, isNon_non, isNon_int, isNon_bl, isNon_tup, isNon_str, isNon_obj, biS, metS, metT, isiS, tyN, tyOk, ixS, slS, putS, alloc, wipeE, seqOf]
        refine s_lsigns_text hl.sg hl1 fun S10 k10 => ?_
        refine s_marks_read hl fun S11 k11 => ?_
        refine s_same (toD_mks (n := 58) l) (toD_mks (n := 58) l) (okD_mks hl.sg hl1) ?_
        simp
        have kk := k8.trans (k9.trans (k10.trans k11))
        exact hk2 _ _ ⟨fun u hu => hv u (List.mem_cons_of_mem _ hu), ⟨_, rfl⟩, kk.rdL e7 (by simp), p7.keep kk (by simp), k7.trans kk⟩
      · rintro r S7 ⟨_, ⟨w5, rfl⟩, e7, p7, k7⟩
        refine ⟨e7, ?_⟩
        clear hits e6 p6 k6 e7
        simp only [B_law_14]
        simp [execs, exec, ev, evs, evA, evO, evo, evc, evI, startE, asgT, setAll, truV, binS, cmpS, cmpI, isS, isNon_non, isNon_int, isNon_bl, isNon_tup, isNon_str, isNon_obj, biS, metS, metT, isiS, tyN, tyOk, ixS, slS, putS, alloc, wipeE, seqOf]
        have lm := hml.len
        refine s_no_row2 ll2 p7 fun bad S8 hb gb p8 k8 => ?_
        refine s_draw p8 (by omega) (by omega) fun at1 S9 a1 a2 p9 k9 => ?_
        have gb9 := gb.keepP k9 p9
        have k9' : Kp [] S S9 := k7.young (k8.trans k9) (by simp; omega)
        clear gb p8 k8 k9 k7 p7
        simp only [B_law_15]
        simp [execs, exec, ev, evs, evA, evO, evo, evc, evI, startE, asgT, setAll, truV, binS, cmpS, cmpI, isS, isNon_non, isNon_int, isNon_bl, isNon_tup, isNon_str, isNon_obj, biS, metS, metT, isiS, tyN, tyOk, ixS, slS, putS, alloc, wipeE, seqOf]
        obtain ⟨os, eos⟩ : ∃ os, os = [Val.int 0, Val.int 2, Val.bl true, Val.str (Str.ofString "?"), Val.tup [], Val.tup [Val.non], Val.int 1000000000000000000000000000000, Val.bl false] := ⟨_, rfl⟩
        rw [← eos]
        have hol : os.length = 8 := by rw [eos]; rfl
        have hos : ∀ o ∈ os, (isNon o || isSg o) = false ∧ ∀ S, (tyN S o).isSome = true := by
          intro o ho
          rw [eos] at ho
          simp only [List.mem_cons, List.not_mem_nil, or_false] at ho
          rcases ho with rfl | rfl | rfl | rfl | rfl | rfl | rfl | rfl
          all_goals exact ⟨by decide, fun _ => rfl⟩
        clear eos
        refine s_pick os p9 (by rw [hol]; rfl) (by omega) (by omega) fun ix odd S10 e10 hix hv p10 k10 => ⟨_, e10, _, hix, ?_⟩
        obtain ⟨o1, o2⟩ := hos odd hv
        have gb10 := gb9.keepP k10 p10
        have k10' : Kp [] S S10 := k9'.young k10 (by simp; omega)
        have r1 := cut_len (ml.map mk) none (some at1)
        have r2 := cut_len (ml.map mk) (some (at1 + 1)) none
        rw [List.length_map] at r1 r2
        have y0 : ∀ S u, u ∈ ml.map mk → (tyN S u).isSome = true := fun S u hu => by
          obtain ⟨x, _, rfl⟩ := List.mem_map.mp hu
          cases x <;> rfl
        simp only [B_law_16]
        simp [execs, exec, ev, evs, evA, evO, evo, evc, evI, startE, asgT, setAll, truV, binS, cmpS, cmpI, isS, isNon_non, isNon_int, isNon_bl, isNon_tup, isNon_str, isNon_obj, biS, metS, metT, isiS, tyN, tyOk, ixS, slS, putS, alloc, wipeE, seqOf, -List.reduceReplicate]
        refine ⟨by omega, by omega, ?_⟩
        obtain ⟨qs, eqs⟩ : ∃ qs, qs = [Val.non, Val.obj S10.length, Val.tup (cut (ml.map mk) none (some at1) ++ odd :: cut (ml.map mk) (some (at1 + 1)) none), Val.tup (List.replicate 41 Val.non), Val.str (Str.ofString "?"), Val.int 0, Val.obj (S10.length + 1), Val.tup [Val.tup (ml.map mk)], Val.str (Str.ofString "none")] := ⟨_, rfl⟩
        have hqs : ∀ o ∈ qs, amB o = false ∧ GV (S10 ++ [Obj.lst (ml.map mk), Obj.dic [], Obj.lst qs]) o := by
          intro o ho
          generalize Obj.lst qs = oo
          rw [eqs] at ho
          simp only [List.mem_cons, List.not_mem_nil, or_false] at ho
          rcases ho with rfl | rfl | rfl | rfl | rfl | rfl | rfl | rfl | rfl
          · exact ⟨rfl, GV_non rfl fun _ e => by cases e⟩
          · exact ⟨rfl, GV_new1⟩
          · refine ⟨?_, GV_tup fun u hu => ?_⟩
            · have e : ∀ vs, amB (.tup vs) = (decide (vs.length ≤ 40) && vs.all fun u => isNon u || isSg u) := fun _ => rfl
              rw [e, isM_app o1, Bool.and_false]
            · rcases List.mem_append.mp hu with q | q
              · exact y0 _ u (cut_mem q)
              · rcases List.mem_cons.mp q with rfl | q
                · exact o2 _
                · exact y0 _ u (cut_mem q)
          · exact ⟨by decide, GV_flat (by decide)⟩
          · exact ⟨rfl, GV_non rfl fun _ e => by cases e⟩
          · exact ⟨rfl, GV_non rfl fun _ e => by cases e⟩
          · exact ⟨rfl, GV_new2⟩
          · exact ⟨rfl, GV_tup fun u hu => by simp at hu; subst hu; rfl⟩
          · exact ⟨rfl, GV_non rfl fun _ e => by cases e⟩
        have hql : qs.length = 9 := by rw [eqs]; rfl
        try rw [← eqs]
        clear eqs
        simp only [B_law_17]
        simp [execs, exec, ev, evs, evA, evO, evo, evc, evI, startE, asgT, setAll, truV, binS, cmpS, cmpI, isS, isNon_non, isNon_int, isNon_bl, isNon_tup, isNon_str, isNon_obj, biS, metS, metT, isiS, tyN, tyOk, ixS, slS, putS, alloc, wipeE, seqOf]
        refine s_odd p10 (by rw [hql]; rfl) (by omega) (by omega) (fun o => amB o = false) hqs fun k v S11 e11 b11 f1 f2 p11 k11 => ?_
        refine ⟨qs, e11, v, b11, ?_⟩
        have gb11 := gb10.keepP k11 p11
        have k11' : Kp [] S S11 := k10'.young k11 (by simp; omega)
        simp only [B_law_18]
        simp only [↓ev_wordE, execs, exec, ev, evs, evA, evO, evo, evc, evI, startE, asgT, setAll, truV, binS, cmpS, cmpI, isS, isNon_non, isNon_int, isNon_bl, isNon_tup, isNon_str, isNon_obj, biS, metS, metT, isiS, tyN, tyOk, ixS, slS, putS, alloc, wipeE, seqOf]
        simp
        refine word_call (w := "row") (wd_err (by rfl) fun Sx kx Q X h => x_row_text hb (gb11.keep kx) h) fun S12 k12 => ?_
        simp [eqS]
        have e1 : [Val.int 1, Val.non] = [some 1, none].map mk := rfl
        rw [e1]
        refine s_marks_text (ml := [some 1, none]) ⟨by decide, fun x hx => by simp at hx; rcases hx with rfl | rfl; exact .inr (.inl rfl); exact .inl rfl⟩ fun S13 k13 => ?_
        have e2 : txt [some 1, none] = Str.ofString "+?" := by decide
        simp [e2]
        simp only [B_law_20]
        simp only [↓ev_wordE, execs, exec, ev, evs, evA, evO, evo, evc, evI, startE, asgT, setAll, truV, binS, cmpS, cmpI, isS, isNon_non, isNon_int, isNon_bl, isNon_tup, isNon_str, isNon_obj, biS, metS, metT, isiS, tyN, tyOk, ixS, slS, putS, alloc, wipeE, seqOf]
        simp
        refine word_call (w := "marks") (wd_err (by rfl) fun Sx kx Q X h => x_marks_text f1 ((f2.keep (k12.trans k13)).keep kx) h) fun S14 k14 => ?_
        simp [eqS]
        exact hk _ _ _ _ _ _ _ _ _ _ (k11'.trans (k12.trans (k13.trans k14)))
  · rintro r S ⟨hv, ⟨w1, w2, w3, w4, w5, w6, w7, w8, w9, w10, rfl⟩, hS⟩
    refine ⟨hS, ?_⟩
    simp [execs, exec, ev, evs, evA, evO, evo, evc, evI, startE, asgT, setAll, truV, binS, cmpS, cmpI, isS, isNon_non, isNon_int, isNon_bl, isNon_tup, isNon_str, isNon_obj, biS, metS, metT, isiS, tyN, tyOk, ixS, slS, putS, alloc, wipeE, seqOf, B_law_22]
theorem law_ok : ∀ ns : List Int, ns.length ≤ 63 → callN G 7 "law" [.obj 0] [.frz (ns.map .int)] (fun v _ => v = .bl true) fun _ _ => False := fun ns h => law_k80 (n := 0) h rfl
abbrev topS (i : Nat) : PySem.Stmt := PySem.Challenge.pw_smallsteps_k80_rows_and_marks_as_texts.main.body.getD i (.Pass ⟨0, 0, 0, 0⟩)
abbrev R_is_whole : Row := ⟨"is_whole", topS 24, [Str.ofString "thing"], [Str.ofString "thing"], [], false⟩
abbrev R_is_sign : Row := ⟨"is_sign", topS 25, [Str.ofString "thing"], [Str.ofString "thing"], [], false⟩
abbrev R_a_row : Row := ⟨"a_row", topS 26, [Str.ofString "thing", Str.ofString "one"], [Str.ofString "thing"], [], false⟩
abbrev R_need_row : Row := ⟨"need_row", topS 27, [Str.ofString "row"], [Str.ofString "row"], [], false⟩
abbrev R_are_marks : Row := ⟨"are_marks", topS 30, [Str.ofString "thing", Str.ofString "one"], [Str.ofString "thing"], [], false⟩
abbrev R_need_marks : Row := ⟨"need_marks", topS 31, [Str.ofString "marks"], [Str.ofString "marks"], [], false⟩
abbrev R_sign_text : Row := ⟨"sign_text", topS 35, [Str.ofString "sign"], [Str.ofString "sign"], [], false⟩
abbrev R_signs_text : Row := ⟨"signs_text", topS 36, [Str.ofString "signs", Str.ofString "sign"], [Str.ofString "signs"], [], false⟩
abbrev R_row_text : Row := ⟨"row_text", topS 37, [Str.ofString "row"], [Str.ofString "row"], [], false⟩
abbrev R_marks_text : Row := ⟨"marks_text", topS 38, [Str.ofString "marks"], [Str.ofString "marks"], [], false⟩
abbrev R_signs_in : Row := ⟨"signs_in", topS 39, [Str.ofString "text", Str.ofString "letters", Str.ofString "most", Str.ofString "letter"], [Str.ofString "text", Str.ofString "letters", Str.ofString "most"], [], false⟩
abbrev R_row_read : Row := ⟨"row_read", topS 40, [Str.ofString "text"], [Str.ofString "text"], [], false⟩
abbrev R_marks_read : Row := ⟨"marks_read", topS 41, [Str.ofString "text"], [Str.ofString "text"], [], false⟩
abbrev R__law_cell : Row := ⟨"_law_cell", topS 43, [Str.ofString "_law_script", Str.ofString "_law_k"], [Str.ofString "_law_script", Str.ofString "_law_k"], [], false⟩
abbrev R__law_pen : Row := ⟨"_law_pen", topS 44, [Str.ofString "_law_cell_here", Str.ofString "_law_left_over"], [Str.ofString "_law_cell_here"], [], false⟩
abbrev R__law_draw : Row := ⟨"_law_draw", topS 45, [Str.ofString "_law_pen_here", Str.ofString "_law_many", Str.ofString "_law_later", Str.ofString "_law_found", Str.ofString "_law_stir"], [Str.ofString "_law_pen_here", Str.ofString "_law_many"], [], false⟩
abbrev R__law_whole : Row := ⟨"_law_whole", topS 46, [Str.ofString "_law_thing"], [Str.ofString "_law_thing"], [], false⟩
abbrev R__law_same : Row := ⟨"_law_same", topS 50, [Str.ofString "_law_found", Str.ofString "_law_due"], [Str.ofString "_law_found", Str.ofString "_law_due"], [], false⟩
abbrev R__law_size : Row := ⟨"_law_size", topS 51, [Str.ofString "_law_pen_here", Str.ofString "_law_most", Str.ofString "_law_few", Str.ofString "_law_some", Str.ofString "_law_great"], [Str.ofString "_law_pen_here", Str.ofString "_law_most"], [], false⟩
abbrev R__law_row : Row := ⟨"_law_row", topS 52, [Str.ofString "_law_pen_here", Str.ofString "_law_most", Str.ofString "_law_many", Str.ofString "_law_way", Str.ofString "_law_block", Str.ofString "_law_often", Str.ofString "_law_at"], [Str.ofString "_law_pen_here", Str.ofString "_law_most"], [], false⟩
abbrev R__law_no_row : Row := ⟨"_law_no_row", topS 53, [Str.ofString "_law_pen_here", Str.ofString "_law_row_here", Str.ofString "_law_at", Str.ofString "_law_odd", Str.ofString "_law_some"], [Str.ofString "_law_pen_here", Str.ofString "_law_row_here"], [], false⟩
abbrev R__law_signs_text : Row := ⟨"_law_signs_text", topS 54, [Str.ofString "_law_some", Str.ofString "_law_sign"], [Str.ofString "_law_some"], [], false⟩
abbrev R__law_marks : Row := ⟨"_law_marks", topS 55, [Str.ofString "_law_pen_here", Str.ofString "_law_many", Str.ofString "_law_at"], [Str.ofString "_law_pen_here"], [], false⟩
abbrev R_law : Row := ⟨"law", topS 56, [Str.ofString "_law_script", Str.ofString "_law_cell_here", Str.ofString "_law_pen_here", Str.ofString "_law_row_here", Str.ofString "_law_marks_here", Str.ofString "_law_some", Str.ofString "_law_bad", Str.ofString "_law_at", Str.ofString "_law_odd", Str.ofString "_law_wrong", Str.ofString "_law_thing"], [Str.ofString "_law_script"], [], true⟩
abbrev rows : List Row := [R_is_whole, R_is_sign, R_a_row, R_need_row, R_are_marks, R_need_marks, R_sign_text, R_signs_text, R_row_text, R_marks_text, R_signs_in, R_row_read, R_marks_read, R__law_cell, R__law_pen, R__law_draw, R__law_whole, R__law_same, R__law_size, R__law_row, R__law_no_row, R__law_signs_text, R__law_marks, R_law]
abbrev R__law_said : Row := ⟨"_law_said", topS 48, [Str.ofString "_law_call", Str.ofString "_law_found", Str.ofString "_law_e", Str.ofString "_law_word_here"], [Str.ofString "_law_call"], [], false⟩
abbrev R__law_kind : Row := ⟨"_law_kind", topS 47, [Str.ofString "_law_e", Str.ofString "_law_marks_here", Str.ofString "_law_words"], [Str.ofString "_law_e"], [], false⟩
abbrev R__law_word : Row := ⟨"_law_word", topS 49, [Str.ofString "_law_call"], [Str.ofString "_law_call"], [], false⟩
abbrev lrows : List Row := [R_is_whole, R_is_sign, R_a_row, R_need_row, R_are_marks, R_need_marks, R_sign_text, R_signs_text, R_row_text, R_marks_text]
abbrev krows : List Row := [R__law_said, R__law_kind, R__law_word]
abbrev FS : Facts := { fns := ["_law_kind", "_law_whole"], cns := [], frs := [], dfs := [], kind := 2, fld := true }
abbrev FW : Facts := { fns := [], cns := [], frs := ["isinstance", "int", "bool"], dfs := [], kind := 2 }
abbrev irows : List IRow := []
theorem ir_ok : irows.all irB = true := by decide +kernel
theorem ir_bd : ∀ r ∈ irows, BindsI r := fun _ h => by cases h
abbrev FK : Facts := { fns := [], cns := [], frs := ["isinstance", "ValueError"], dfs := [], kind := 2, cls := ["NoRow", "NoStep", "NoSteps", "NoBound", "NoNumber", "NotKept", "NoMarks", "NoSigns", "NotSo", "NoPattern", "NoTail", "NotEven", "NoRun", "NoBoard", "NoHues", "NoText", "NoLine", "NoDeed", "TooMany", "TooFew"] }
abbrev FF : Facts := { fns := ["is_whole", "is_sign", "a_row", "need_row", "are_marks", "need_marks", "sign_text", "signs_text", "row_text", "marks_text", "signs_in", "row_read", "marks_read", "_law_cell", "_law_pen", "_law_draw", "_law_whole", "_law_same", "_law_size", "_law_row", "_law_no_row", "_law_signs_text", "_law_marks", "law"], cns := [("MOST_SIGNS", (.int 100)), ("MOST_MARKS", (.int 40))], frs := ["isinstance", "bool", "int", "abs", "all", "len", "tuple", "str", "dict", "max", "divmod", "repr", "sorted", "min", "range", "list"], dfs := [], lows := ["is_whole", "is_sign", "a_row", "need_row", "are_marks", "need_marks", "sign_text", "signs_text", "row_text", "marks_text"], xns := ["NoRow", "NoMarks", "NoText"], wrd := true, xis := [], fvs := fvL, dcs := [("SIGNS", [(Str.ofString "+", (.int 1)), (Str.ofString "-", (.int (-1)))]), ("MARKS", [(Str.ofString "+", (.int 1)), (Str.ofString "-", (.int (-1))), (Str.ofString "?", .non)])] }
theorem bd_is_whole : BindsP R_is_whole := by
  unfold BindsP
  rw [if_pos rfl]
  exact fun _ _ _ _ _ _ us hl => match us, hl with | [_], _ => rfl
theorem rb_is_whole : rowB FF G0 R_is_whole = true := by decide +kernel
theorem bd_is_sign : BindsP R_is_sign := by
  unfold BindsP
  rw [if_pos rfl]
  exact fun _ _ _ _ _ _ us hl => match us, hl with | [_], _ => rfl
theorem rb_is_sign : rowB FF G0 R_is_sign = true := by decide +kernel
theorem bd_a_row : BindsP R_a_row := by
  unfold BindsP
  rw [if_pos rfl]
  exact fun _ _ _ _ _ _ us hl => match us, hl with | [_], _ => rfl
theorem rb_a_row : rowB FF G0 R_a_row = true := by decide +kernel
theorem bd_need_row : BindsP R_need_row := by
  unfold BindsP
  rw [if_pos rfl]
  exact fun _ _ _ _ _ _ us hl => match us, hl with | [_], _ => rfl
theorem rb_need_row : rowB FF G0 R_need_row = true := by decide +kernel
theorem bd_are_marks : BindsP R_are_marks := by
  unfold BindsP
  rw [if_pos rfl]
  exact fun _ _ _ _ _ _ us hl => match us, hl with | [_], _ => rfl
theorem rb_are_marks : rowB FF G0 R_are_marks = true := by decide +kernel
theorem bd_need_marks : BindsP R_need_marks := by
  unfold BindsP
  rw [if_pos rfl]
  exact fun _ _ _ _ _ _ us hl => match us, hl with | [_], _ => rfl
theorem rb_need_marks : rowB FF G0 R_need_marks = true := by decide +kernel
theorem bd_sign_text : BindsP R_sign_text := by
  unfold BindsP
  rw [if_pos rfl]
  exact fun _ _ _ _ _ _ us hl => match us, hl with | [_], _ => rfl
theorem rb_sign_text : rowB FF G0 R_sign_text = true := by decide +kernel
theorem bd_signs_text : BindsP R_signs_text := by
  unfold BindsP
  rw [if_pos rfl]
  exact fun _ _ _ _ _ _ us hl => match us, hl with | [_], _ => rfl
theorem rb_signs_text : rowB FF G0 R_signs_text = true := by decide +kernel
theorem bd_row_text : BindsP R_row_text := by
  unfold BindsP
  rw [if_pos rfl]
  exact fun _ _ _ _ _ _ us hl => match us, hl with | [_], _ => rfl
theorem rb_row_text : rowB FF G0 R_row_text = true := by decide +kernel
theorem bd_marks_text : BindsP R_marks_text := by
  unfold BindsP
  rw [if_pos rfl]
  exact fun _ _ _ _ _ _ us hl => match us, hl with | [_], _ => rfl
theorem rb_marks_text : rowB FF G0 R_marks_text = true := by decide +kernel
theorem bd_signs_in : BindsP R_signs_in := by
  unfold BindsP
  rw [if_pos rfl]
  exact fun _ _ _ _ _ _ us hl => match us, hl with | [_, _, _], _ => rfl
theorem rb_signs_in : rowB FF G0 R_signs_in = true := by decide +kernel
theorem bd_row_read : BindsP R_row_read := by
  unfold BindsP
  rw [if_pos rfl]
  exact fun _ _ _ _ _ _ us hl => match us, hl with | [_], _ => rfl
theorem rb_row_read : rowB FF G0 R_row_read = true := by decide +kernel
theorem bd_marks_read : BindsP R_marks_read := by
  unfold BindsP
  rw [if_pos rfl]
  exact fun _ _ _ _ _ _ us hl => match us, hl with | [_], _ => rfl
theorem rb_marks_read : rowB FF G0 R_marks_read = true := by decide +kernel
theorem bd__law_cell : BindsP R__law_cell := by
  unfold BindsP
  rw [if_pos rfl]
  exact fun _ _ _ _ _ _ us hl => match us, hl with | [_, _], _ => rfl
theorem rb__law_cell : rowB FF G0 R__law_cell = true := by decide +kernel
theorem bd__law_pen : BindsP R__law_pen := by
  unfold BindsP
  rw [if_pos rfl]
  exact fun _ _ _ _ _ _ us hl => match us, hl with | [_], _ => rfl
theorem rb__law_pen : rowB FF G0 R__law_pen = true := by decide +kernel
theorem bd__law_draw : BindsP R__law_draw := by
  unfold BindsP
  rw [if_pos rfl]
  exact fun _ _ _ _ _ _ us hl => match us, hl with | [_, _], _ => rfl
theorem rb__law_draw : rowB FF G0 R__law_draw = true := by decide +kernel
theorem bd__law_whole : BindsP R__law_whole := by
  unfold BindsP
  rw [if_pos rfl]
  exact fun _ _ _ _ _ _ us hl => match us, hl with | [_], _ => rfl
theorem rb__law_whole : rowB FF G0 R__law_whole = true := by decide +kernel
theorem bd__law_same : BindsP R__law_same := by
  unfold BindsP
  rw [if_pos rfl]
  exact fun _ _ _ _ _ _ us hl => match us, hl with | [_, _], _ => rfl
theorem rb__law_same : rowB FF G0 R__law_same = true := by decide +kernel
theorem bd__law_size : BindsP R__law_size := by
  unfold BindsP
  rw [if_pos rfl]
  exact fun _ _ _ _ _ _ us hl => match us, hl with | [_, _], _ => rfl
theorem rb__law_size : rowB FF G0 R__law_size = true := by decide +kernel
theorem bd__law_row : BindsP R__law_row := by
  unfold BindsP
  rw [if_pos rfl]
  exact fun _ _ _ _ _ _ us hl => match us, hl with | [_, _], _ => rfl
theorem rb__law_row : rowB FF G0 R__law_row = true := by decide +kernel
theorem bd__law_no_row : BindsP R__law_no_row := by
  unfold BindsP
  rw [if_pos rfl]
  exact fun _ _ _ _ _ _ us hl => match us, hl with | [_, _], _ => rfl
theorem rb__law_no_row : rowB FF G0 R__law_no_row = true := by decide +kernel
theorem bd__law_signs_text : BindsP R__law_signs_text := by
  unfold BindsP
  rw [if_pos rfl]
  exact fun _ _ _ _ _ _ us hl => match us, hl with | [_], _ => rfl
theorem rb__law_signs_text : rowB FF G0 R__law_signs_text = true := by decide +kernel
theorem bd__law_marks : BindsP R__law_marks := by
  unfold BindsP
  rw [if_pos rfl]
  exact fun _ _ _ _ _ _ us hl => match us, hl with | [_], _ => rfl
theorem rb__law_marks : rowB FF G0 R__law_marks = true := by decide +kernel
theorem bd_law : BindsP R_law := by
  unfold BindsP
  rw [if_pos rfl]
  exact fun _ _ _ _ _ _ us hl => match us, hl with | [_], _ => rfl
theorem rb_law : rowB FF G0 R_law = true := by decide +kernel
theorem rl_is_whole : rowB FF.low G0 R_is_whole = true := by decide +kernel
theorem rl_is_sign : rowB FF.low G0 R_is_sign = true := by decide +kernel
theorem rl_a_row : rowB FF.low G0 R_a_row = true := by decide +kernel
theorem rl_need_row : rowB FF.low G0 R_need_row = true := by decide +kernel
theorem rl_are_marks : rowB FF.low G0 R_are_marks = true := by decide +kernel
theorem rl_need_marks : rowB FF.low G0 R_need_marks = true := by decide +kernel
theorem rl_sign_text : rowB FF.low G0 R_sign_text = true := by decide +kernel
theorem rl_signs_text : rowB FF.low G0 R_signs_text = true := by decide +kernel
theorem rl_row_text : rowB FF.low G0 R_row_text = true := by decide +kernel
theorem rl_marks_text : rowB FF.low G0 R_marks_text = true := by decide +kernel
theorem lrows_ok : lrows.all (rowB FF.low G0) = true := by
  show (rowB FF.low G0 R_is_whole && (rowB FF.low G0 R_is_sign && (rowB FF.low G0 R_a_row && (rowB FF.low G0 R_need_row && (rowB FF.low G0 R_are_marks && (rowB FF.low G0 R_need_marks && (rowB FF.low G0 R_sign_text && (rowB FF.low G0 R_signs_text && (rowB FF.low G0 R_row_text && (rowB FF.low G0 R_marks_text && true)))))))))) = true
  simp only [rl_is_whole, rl_is_sign, rl_a_row, rl_need_row, rl_are_marks, rl_need_marks, rl_sign_text, rl_signs_text, rl_row_text, rl_marks_text, Bool.and_self, Bool.and_true]
theorem lrows_in : ∀ r ∈ lrows, r ∈ rows := by
  simp only [lrows, rows, List.mem_cons, List.mem_nil_iff, or_false]
  rintro r h
  first | exact h.elim | (rcases h with rfl | rfl | rfl | rfl | rfl | rfl | rfl | rfl | rfl | rfl <;> simp)
theorem bd__law_said : BindsP R__law_said := by
  unfold BindsP
  rw [if_pos rfl]
  exact fun _ _ _ _ _ _ us hl => match us, hl with | [_], _ => rfl
theorem bd__law_kind : BindsP R__law_kind := by
  unfold BindsP
  rw [if_pos rfl]
  exact fun _ _ _ _ _ _ us hl => match us, hl with | [_], _ => rfl
theorem bd__law_word : BindsP R__law_word := by
  unfold BindsP
  rw [if_pos rfl]
  exact fun _ _ _ _ _ _ us hl => match us, hl with | [_], _ => rfl
theorem kr_ok : krB FS FK FW B_said D_kind D_whole R__law_said R__law_kind R__law_whole = true := by decide +kernel
theorem rV_in : R__law_whole ∈ rows := by simp only [rows, List.mem_cons, true_or, or_true]
theorem kr_all : tfOf rows ≠ [] → ∃ rS rK rV ws, krows = rS :: rK :: ws ∧ rV ∈ rows ∧ krB FS FK FW B_said D_kind D_whole rS rK rV = true ∧ BindsP rS ∧ BindsP rK ∧ (∀ x ∈ FW.frs, x ∈ FF.frs) ∧ FK.cls.isEmpty = false ∧ fsOk FS FK FW ∧ PlainK B_said D_kind D_whole ∧ (FF.wrd = true → ∃ rW ∈ ws, wrB rW = true ∧ BindsP rW) := fun _ => ⟨_, _, R__law_whole, _, rfl, rV_in, kr_ok, bd__law_said, bd__law_kind, by decide, rfl, ⟨⟨rfl, rfl, rfl, rfl, rfl, rfl⟩, ⟨rfl, rfl, rfl, rfl, rfl⟩, rfl, rfl, rfl, rfl, rfl, rfl⟩, plainK, fun h => ⟨R__law_word, List.mem_cons_self, by decide +kernel, bd__law_word⟩⟩
theorem rows_bd : ∀ r ∈ rows, BindsP r := by
  intro r h
  simp only [List.mem_cons, List.mem_nil_iff, or_false] at h
  rcases h with rfl | rfl | rfl | rfl | rfl | rfl | rfl | rfl | rfl | rfl | rfl | rfl | rfl | rfl | rfl | rfl | rfl | rfl | rfl | rfl | rfl | rfl | rfl | rfl
  · exact bd_is_whole
  · exact bd_is_sign
  · exact bd_a_row
  · exact bd_need_row
  · exact bd_are_marks
  · exact bd_need_marks
  · exact bd_sign_text
  · exact bd_signs_text
  · exact bd_row_text
  · exact bd_marks_text
  · exact bd_signs_in
  · exact bd_row_read
  · exact bd_marks_read
  · exact bd__law_cell
  · exact bd__law_pen
  · exact bd__law_draw
  · exact bd__law_whole
  · exact bd__law_same
  · exact bd__law_size
  · exact bd__law_row
  · exact bd__law_no_row
  · exact bd__law_signs_text
  · exact bd__law_marks
  · exact bd_law
theorem rows_ok : rows.all (rowB FF G0) = true := by
  show (rowB FF G0 R_is_whole && (rowB FF G0 R_is_sign && (rowB FF G0 R_a_row && (rowB FF G0 R_need_row && (rowB FF G0 R_are_marks && (rowB FF G0 R_need_marks && (rowB FF G0 R_sign_text && (rowB FF G0 R_signs_text && (rowB FF G0 R_row_text && (rowB FF G0 R_marks_text && (rowB FF G0 R_signs_in && (rowB FF G0 R_row_read && (rowB FF G0 R_marks_read && (rowB FF G0 R__law_cell && (rowB FF G0 R__law_pen && (rowB FF G0 R__law_draw && (rowB FF G0 R__law_whole && (rowB FF G0 R__law_same && (rowB FF G0 R__law_size && (rowB FF G0 R__law_row && (rowB FF G0 R__law_no_row && (rowB FF G0 R__law_signs_text && (rowB FF G0 R__law_marks && (rowB FF G0 R_law && true)))))))))))))))))))))))) = true
  simp only [rb_is_whole, rb_is_sign, rb_a_row, rb_need_row, rb_are_marks, rb_need_marks, rb_sign_text, rb_signs_text, rb_row_text, rb_marks_text, rb_signs_in, rb_row_read, rb_marks_read, rb__law_cell, rb__law_pen, rb__law_draw, rb__law_whole, rb__law_same, rb__law_size, rb__law_row, rb__law_no_row, rb__law_signs_text, rb__law_marks, rb_law, Bool.and_self, Bool.and_true]
abbrev RR : PySem.W.OpenRow := PySem.W.OpenLaw.row PySem.Challenge.rw_smallsteps_k80_rows_and_marks_as_texts
abbrev fnD : List He.DefD := (rows ++ krows).map mkD ++ irows.map mkIR
abbrev hkM : PySem.W.Hook := hookY 4 (factsOf FF ++ factsC FF FK) fnD (tsOf FF) (tfOf rows) (exM FF FK (tfOf rows))
def obM (s : PySem.W.SharedT) : He.AlX := obsY 4 (factsOf FF ++ factsC FF FK) fnD (tsOf FF) (tfOf rows) (exM FF FK (tfOf rows)) (HandSHeadRun.getT s)
theorem obM_eq (s : PySem.W.SharedT) : obM s = hkM.obs s.abs   := obsY_eq (HandSHeadRun.getT_eq s)
abbrev looseN0 : List PySem.Str := [Str.ofString "StepError", Str.ofString "NoRow", Str.ofString "NoStep", Str.ofString "NoSteps", Str.ofString "NoBound", Str.ofString "NoNumber", Str.ofString "NotKept", Str.ofString "NoMarks", Str.ofString "NoSigns", Str.ofString "NotSo", Str.ofString "NoPattern", Str.ofString "NoTail", Str.ofString "NotEven", Str.ofString "NoRun", Str.ofString "NoBoard", Str.ofString "NoHues", Str.ofString "NoText", Str.ofString "NoLine", Str.ofString "NoDeed", Str.ofString "TooMany", Str.ofString "TooFew", Str.ofString "MOST_SIGNS", Str.ofString "is_whole", Str.ofString "is_sign", Str.ofString "a_row", Str.ofString "need_row", Str.ofString "MOST_MARKS", Str.ofString "are_marks", Str.ofString "need_marks", Str.ofString "SIGNS"]
abbrev looseN1 : List PySem.Str := [Str.ofString "MARKS", Str.ofString "sign_text", Str.ofString "signs_text", Str.ofString "row_text", Str.ofString "marks_text", Str.ofString "signs_in", Str.ofString "row_read", Str.ofString "marks_read", Str.ofString "_law_cell", Str.ofString "_law_pen", Str.ofString "_law_draw", Str.ofString "_law_whole", Str.ofString "_law_kind", Str.ofString "_law_said", Str.ofString "_law_word", Str.ofString "_law_same", Str.ofString "_law_size", Str.ofString "_law_row", Str.ofString "_law_no_row", Str.ofString "_law_signs_text", Str.ofString "_law_marks"]
abbrev looseN : List PySem.Str := looseN0 ++ looseN1
def fixW (w : PySem.World) (b : Bool) : PySem.World := ⟨w.draws, { w.params with followText := fun s => if s = "special-get-raises" then b else w.params.followText s }⟩
theorem fixW_eq {w : PySem.World} {b : Bool} (h : w.params.followText "special-get-raises" = b) : fixW w b = w := by
  have e : (fun s => if s = "special-get-raises" then b else w.params.followText s) = w.params.followText := by
    funext s
    by_cases q : s = "special-get-raises"
    · rw [if_pos q, q, h]
    · rw [if_neg q]
  show (⟨w.draws, { w.params with followText := fun s => if s = "special-get-raises" then b else w.params.followText s }⟩ : PySem.World) = w
  rw [e]
theorem runM_true (w : PySem.World) : HandSHeadRun.RunEq RR (PySem.W.view RR.prog [56]) hkM obM 6000 looseN (fixW w true) := by
  intro os
  kernel_rfl
theorem runM_false (w : PySem.World) : HandSHeadRun.RunEq RR (PySem.W.view RR.prog [56]) hkM obM 6000 looseN (fixW w false) := by
  intro os
  kernel_rfl
theorem runM (w : PySem.World) : HandSHeadRun.RunEq RR (PySem.W.view RR.prog [56]) hkM obM 6000 looseN w := by
  cases h : w.params.followText "special-get-raises" with
  | true =>
    have q := runM_true w
    rw [fixW_eq h] at q
    exact q
  | false =>
    have q := runM_false w
    rw [fixW_eq h] at q
    exact q
theorem law_okF : ∀ (AA : String → Addr) (ns : List Int), ns.length ≤ 63 → callN (withF G0 FF.fvs AA) 7 "law" [.obj 0] [.frz (ns.map .int)] (fun v _ => v = .bl true) fun _ _ => False := fun AA => law_ok
end Mp
open PySem PySem.W PySem.Calls PyProof.Rows
theorem PySem.Challenge.cw_smallsteps_k80_rows_and_marks_as_texts_holds : PySem.Challenge.rw_smallsteps_k80_rows_and_marks_as_texts.Holds := by
  w_on; o_law
  refine HandSHeadRun.head_any (r := OpenLaw.row PySem.Challenge.rw_smallsteps_k80_rows_and_marks_as_texts) (q := view (OpenLaw.row PySem.Challenge.rw_smallsteps_k80_rows_and_marks_as_texts).prog [56]) (H := Mp.hkM) (ob := Mp.obM) (M := 6000) (loose := Mp.looseN) (d := HandSHeadRun.topDef (OpenLaw.row PySem.Challenge.rw_smallsteps_k80_rows_and_marks_as_texts).prog 56) (kwd := []) Mp.obM_eq
    (by kernel_rfl) (fun s => by kernel_rfl) Mp.runM (by kernel_rfl) (by kernel_rfl) (by kernel_rfl) (by rfl) (by first | assumption | decide +kernel) (by decide +kernel) ⟨rfl, rfl, rfl, rfl, rfl, by decide +kernel⟩ ?hw ?hc
  case hw => w_witness2
  case hc =>
    refine Mp.walk_mini (l := PySem.Challenge.rw_smallsteps_k80_rows_and_marks_as_texts) (n := 63) (k := 7) (F := Mp.FF) (G := Mp.G0) (ln := "law") rfl (by decide) (by kernel_rfl) ⟨rfl, by decide, by decide⟩ rfl (by kernel_rfl) (by decide) rfl (FS := Mp.FS) (FK := Mp.FK) (FW := Mp.FW) (sb := Mp.B_said) (dK := Mp.D_kind) (dW := Mp.D_whole) ?F (by decide) Mp.law_okF
    intro w mg fa h Y G hmg0
    obtain ⟨K, KX, c⟩ := Y
    exact ⟨K, Mp.lawF_X KX G c rfl rfl Mp.lrows_in Mp.rows_ok Mp.lrows_ok Mp.rows_bd (by decide) (by decide) rfl Mp.ir_ok Mp.ir_bd rfl Mp.kr_all Mp.G0_amp⟩
