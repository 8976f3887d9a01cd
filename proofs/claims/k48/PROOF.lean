import PyProof.Rows.All
import Wide.All
import OpenK.AllK
import Wide.FinOn
import HandS.ForMost
import KE.SortData
import KE.SortKeyHeap
import KE.SortLaws
import PyProof.TupleOfSeq
import PyProof.Rows.SortWalk
import HandS.ExcValue
import KE.KDictZip
import HandS.MapObj
import HandS.Zip0
import HandS.Conv
import HandS.TupAny
import HandS.Deep
import HandS.Walk
import HandS.Wide
import KE.KDictKeyed
import KE.DataCmp
import HandS.More
import HandS.SetKeys
import HandS.SortKw
import HandS.StrMore
import HandS.Strs
import KE.KDictCopyH
import KE.KDictSum
import KE.DataFind
import PyProof.SeqIndex
import KE.KIndexOf
import HandS.IsInst
import HandS.TupSets
import HandS.SetFor
import HandS.CallSlots
import HandS.WordsExc
import HandS.Zip
import HandS.Rev
import KE.GoesEnum
import HandS.Ends
import KE.KDictDisplayH
import HandS.Small
import HandS.Style
import HandS.RevTup
import HandS.Words
import HandS.Codes
import PySem.Challenge.RW_pileduel_k48_machines_as_sayings
set_option Elab.async false
set_option linter.all false
set_option maxRecDepth 100000
set_option maxHeartbeats 4000000
/-! ### sorting tuples, empty ones among them -/
namespace RT
open PySem PySem.W PySem.SeqAt PySem.Calls PyProof.Rows
/-- all are tuples, or none is a tuple or None -/
def Srtb (ds : List PyData) : Prop := (∀ d, d ∈ ds → ∃ xs, d = .tuple xs) ∨ ∀ d, d ∈ ds → d ≠ .none ∧ ∀ xs, d ≠ .tuple xs
section
variable {prog : Program} {w : World} {A : Around} {E : Value → Shared → Prop} {s : Shared}
/-- tuple's own less-than, called as sorting calls it -/
theorem tup_lt_call {l b : Addr} {us vs : Array Value} {e r : Nat → Bool} {Q : Value → Shared → Prop} (hl : s.heap.IsTuple l us) (hb : s.heap.IsTuple b vs)
    (he : ∀ j (h1 : j < us.size) (h2 : j < vs.size), EqAt A.in1 s us[j] vs[j] (e j)) (hr : ∀ j (h1 : j < us.size) (h2 : j < vs.size), e j = false → RcLt A.in1 s us[j] vs[j] (r j))
    (h : Q (.bool (firstLt e r (decide (us.size < vs.size)) (List.range (min us.size vs.size)))) s) : wpAny (model prog w) A (call (.builtin "tuple.__lt__") [.ref l, .ref b]) Q E s := by
  obtain ⟨o1, ho1, c1, n1, d1⟩ := id hl
  obtain ⟨o2, ho2, c2, n2, d2⟩ := id hb
  cases o1
  cases o2
  simp only at c1 d1 c2 d2
  subst c1 d1 c2 d2
  exact call_meets F.slot_tuple_lt ⟨_, ho1, rfl⟩ F.entry_tuple_lt (F.args_tuple_lt_2 _ _) (tuple_ltAt l b us vs _ _ _ _ _ _ e r) ⟨ho1, ho2, he, hr, h⟩
theorem one_tup {f : Bool} {xs ys : List PyData} {a b : Value} {as bs : List Addr} {Q : Bool → Shared → Prop} (ra : Reads s.heap a (.tuple xs) as) (rb : Reads s.heap b (.tuple ys) bs) (h : alikeAll xs ys = true)
    (hu : A.units + min (PyData.tuple xs).depth (PyData.tuple ys).depth < cLine) (hq : Q (dataLt (.tuple xs) (.tuple ys)) s) : wpAny (model prog w) A (oneLt' f a b) Q E s := by
  have hal : alike (.tuple xs) (.tuple ys) = true := by simpa [alike] using h
  cases f with
  | false =>
    rw [oneLt'_eq]
    simp only [Bool.false_eq_true, if_false]
    exact wpAny_bind (rcLt_alike _ _ A s a b as bs ra rb hal (fun z => by cases z) hu prog w E _ (wpAny_truthy_bool hq))
  | true =>
    cases ra with
    | @tuple l o vs n _ as₁ h1 h2 h3 h4 =>
      cases rb with
      | @tuple l' o' vs' n' _ bs₁ k1 k2 k3 k4 =>
        have n1 : vs.size = xs.length := by simpa using ReadsAll.length _ _ _ h4
        have n2 : vs'.size = ys.length := by simpa using ReadsAll.length _ _ _ k4
        rw [dataLt_tuple, ← firstLt_toks xs ys h, ← n1, ← n2] at hq
        rw [oneLt'_eq]
        simp only [if_true]
        refine wpAny_bind (wpAny_cRoomFor (room_here hu) ?_)
        refine wpAny_bind (wpAny_callSpecialIfBound?_slot (T := "tuple") ⟨_, h1, h2⟩ F.slot_tuple_lt (tup_lt_call (e := pairEq xs ys) (r := fun j => dataLt (xs.getD j .none) (ys.getD j .none)) ⟨_, h1, h2, _, h3⟩ ⟨_, k1, k2, _, k3⟩ (fun j j1 j2 => ?_) (fun j j1 j2 hj => ?_) ?_))
        · have := eqAt_alikeAll xs ys A.in1 s vs.toList vs'.toList _ _ h4 k4 h (room_in hu) j (by simpa using j1) (by simpa using j2)
          simpa using this
        · have := rcLt_alikeAll xs ys A.in1 s vs.toList vs'.toList _ _ h4 k4 h (room_in hu) j (by simpa using j1) (by simpa using j2) hj
          simpa using this
        · exact wpAny_truthy_bool hq
/-- what the first items are, None where a tuple is empty -/
theorem firsts_tups : ∀ {vs : List Value} {ds : List PyData}, EachIs (fun v d => ∃ as, Reads s.heap v d as) vs ds → (∀ d, d ∈ ds → ∃ xs, d = .tuple xs) →
    ∃ fs : List (Option Value), fs.length = vs.length ∧ (fs.all (·.isSome) = true → ∀ d, d ∈ ds → ∃ x r, d = .tuple (x :: r)) ∧ ∀ {E : Value → Shared → Prop} {Q : List (Option Value) → Shared → Prop}, Q fs s → wpAny (model prog w) A (vs.mapM firstOfTuple') Q E s
  | _, _, .nil, _ => ⟨[], rfl, fun _ d hd => absurd hd (by simp), fun h => by rw [List.mapM_nil]; exact wpAny_pure h⟩
  | _, _, .cons (b := d) ⟨as, r⟩ t, ht => by
    obtain ⟨fs, h1, h2, h3⟩ := firsts_tups t fun d hd => ht d (List.mem_cons_of_mem _ hd)
    obtain ⟨xs, rfl⟩ := ht d (List.mem_cons_self ..)
    cases r with
    | @tuple a o vs n _ _ ho hc hd hr =>
      refine ⟨vs[0]? :: fs, by rw [List.length_cons, List.length_cons, h1], fun hall d hd2 => ?_, fun {E Q} hq => ?_⟩
      · rw [List.all_cons, Bool.and_eq_true] at hall
        rcases List.mem_cons.mp hd2 with rfl | hd2
        · have n1 := ReadsAll.length _ _ _ hr
          cases xs with
          | nil =>
            have : vs.size = 0 := by simpa using n1
            have e0 : vs[0]? = none := Array.getElem?_eq_none (by omega)
            rw [e0] at hall
            exact absurd hall.1 (by simp)
          | cons x r => exact ⟨x, r, rfl⟩
        · exact h2 hall.2 d hd2
      · rw [List.mapM_cons]
        refine wpAny_bind ?_
        rw [kas_first_eq]
        refine wpAny_bind (Looks.here (show Looks (model prog w) s.heap (typeOf (.ref a)) o.cls from (Looks.ld ho).andThen .now) ?_)
        rw [hc, if_neg (by first | decide | simp)]
        refine wpAny_bind (listItems_at ho hd (wpAny_pure ?_))
        exact wpAny_bind (h3 (Q := fun bs s' => wpAny (model prog w) A (pure (vs[0]? :: bs)) Q E s') (wpAny_pure hq))
/-- the kind of the keys, where one of them is the empty tuple -/
theorem kind_tups {vs : List Value} {ds : List PyData} (e : EachIs (fun v d => ∃ as, Reads s.heap v d as) vs ds) (ht : ∀ d, d ∈ ds → ∃ xs, d = .tuple xs) (hne : ¬ ∀ d, d ∈ ds → ∃ x r, d = .tuple (x :: r)) (h2 : 2 ≤ vs.length) :
    ∃ kd : SortKind, (kd = general' ∨ kd = oneType') ∧ ∀ (E : Value → Shared → Prop) {Q : SortKind → Shared → Prop}, Q kd s → wpAny (model prog w) A (keyKind' vs.toArray) Q E s := by
  obtain ⟨fs, f1, f2, f3⟩ := firsts_tups (A := A) (prog := prog) (w := w) e ht
  have hall : ¬ (fs.toArray.all (·.isSome)) = true := fun z => hne (f2 (by simpa using z))
  by_cases c : (fs[0]?.bind id).isSome = true
  · refine ⟨general', .inl rfl, fun E Q hq => ?_⟩
    rw [keyKind'_eq, List.mapM_toArray, map_eq_pure_bind]
    refine wpAny_bind (wpAny_bind (f3 (wpAny_pure ?_)))
    rw [if_neg hall, if_pos (by simpa using c)]
    exact wpAny_pure hq
  · refine ⟨oneType', .inr rfl, fun E Q hq => ?_⟩
    rw [keyKind'_eq, List.mapM_toArray, map_eq_pure_bind]
    refine wpAny_bind (wpAny_bind (f3 (wpAny_pure ?_)))
    rw [if_neg hall, if_neg (by simpa using c)]
    rw [oneTypeOnly'_eq, List.mapM_toArray, map_eq_pure_bind]
    refine wpAny_bind (wpAny_bind (wpAny_bind (kas_mapM (r := Value.type "tuple") _ (fun v hv Q' hq => ?_) (wpAny_pure ?_))))
    · obtain ⟨d, hd, as, r⟩ := e.left v hv
      obtain ⟨xs, rfl⟩ := ht d hd
      exact Looks.here (looks_reads r) hq
    · have hall : ((List.map (fun _ => Value.type "tuple") vs).toArray.all fun x => x == Value.type "tuple") = true := by
        simp only [List.all_toArray, List.all_map, List.all_eq_true]
        intro _ _
        rfl
      obtain ⟨v, r, rfl⟩ : ∃ v r, vs = v :: r := by
        cases vs with
        | nil => simp at h2
        | cons v r => exact ⟨v, r, rfl⟩
      have h0 : (List.map (fun _ => Value.type "tuple") (v :: r)).toArray[0]? = some (Value.type "tuple") := by simp
      rw [h0]
      simp only [hall, if_true]
      exact wpAny_pure (wpAny_pure hq)
/-- tuples that read as alike data, empty ones among them, can be sorted -/
theorem sorts_at {vs : List Value} {ds : List PyData} (e : EachIs (fun v d => ∃ as, Reads s.heap v d as) vs ds) (hal : AllAlike ds) (hk : Srtb ds) (hu : ∀ d, d ∈ ds → A.units + d.depth < cLine) : SortsAt prog w A s (dataKind s.heap ds) vs := by
  rcases hk with ht | hn
  · by_cases hne : ∀ d, d ∈ ds → ∃ x r, d = .tuple (x :: r)
    · exact SortsAt.data e hal (.inl hne) hu
    · have lt : ∀ (b : Bool) {x y : Value} {i j : List (Int ⊕ List Nat)} {E : Value → Shared → Prop} {Q : Bool → Shared → Prop}, (dataKind s.heap ds).keyOf x = some i → (dataKind s.heap ds).keyOf y = some j → Q (lexLt itemOrd i j) s → wpAny (model prog w) A (oneLt' b x y) Q E s := by
        intro b x y i j E Q ha hb hq
        obtain ⟨d, as, hd, ra, rfl⟩ := dataKind_inv ha
        obtain ⟨d', as', hd', rb, rfl⟩ := dataKind_inv hb
        obtain ⟨xs, rfl⟩ := ht d hd
        obtain ⟨ys, rfl⟩ := ht d' hd'
        have h := hal _ hd _ hd'
        exact one_tup ra rb (by simpa [alike] using h) (Nat.lt_of_le_of_lt (Nat.add_le_add_left (Nat.min_le_left _ _) _) (hu _ hd)) hq
      refine ⟨fun v hv => ?_, ?_⟩
      · obtain ⟨d, hd, as, r⟩ := e.left v hv
        exact ⟨_, dataKind_some hal hd r⟩
      · by_cases h2 : 2 ≤ vs.length
        · obtain ⟨kd, hkd, hK⟩ := kind_tups (A := A) (prog := prog) (w := w) e ht hne h2
          refine ⟨kd, ?_, fun _ E Q hq => hK E hq⟩
          rcases hkd with rfl | rfl
          · intro E x y a b Q ha hb hq
            exact lt false ha hb hq
          · intro E x y a b Q ha hb hq
            rw [keyLt'_oneType]
            exact lt true ha hb hq
        · refine ⟨general', ?_, fun h => absurd h h2⟩
          intro E x y a b Q ha hb hq
          exact lt false ha hb hq
  · exact SortsAt.data e hal (.inr hn) hu
variable {β : Type} {R : Value → β → Prop} {enc : β → PyData} {vs : List Value} {bs : List β}
/-- xs.sort() -/
theorem list_sort_t {a : Addr} {n : Nat} {Q : Value → Shared → Prop} (ho : s.heap.get? a = some (seqObj "list" vs.toArray n)) (e : EachIs R vs bs) (er : EachIs (fun v b => ∃ as, Reads s.heap v (enc b) as ∧ a ∉ as) vs bs) (hal : AllAlike (bs.map enc)) (hk : Srtb (bs.map enc)) (hL : bs.length ≤ sizeLine)
    (hu : ∀ b, b ∈ bs → A.units + 1 + (enc b).depth < cLine) (h : ∀ out, out.length = bs.length → EachIs R out (bs.mergeSort (dataLe false enc)) → Q .none { s with heap := sortedHeap s.heap a vs (List.toArray out) }) :
    wpAny (model prog w) A (call (.builtin "list.sort") [.ref a]) Q E s := by
  have er' : EachIs (fun v b => ∃ as, Reads (sortingHeap s.heap a vs) v (enc b) as) vs bs := each_keepBut (fun _ _ hb q => sortingHeap_old hb q) (fun o q => by rw [ho] at q; cases q; rfl) hal er
  have S := sorts_at (prog := prog) (w := w) (A := A.in1) (s := { s with heap := sortingHeap s.heap a vs }) (each_map (R := fun v d => ∃ as, Reads (sortingHeap s.heap a vs) v d as) enc er') hal hk (bound_map hu)
  refine wpAny_call_entry slot_list_sort ⟨_, ho, rfl⟩ entry_list_sort (list_sort_vals ho S (by rw [e.length]; exact hL) ⟨.none, rfl, ?_⟩) (args_list_sort _)
  exact h _ ((sortVals_length false rfl).trans e.length) (sortVals_data false e er' hal)
end
end RT

/-! ### sorted of whatever can be gone through -/
namespace RT
open PySem PySem.W PyProof.Rows
mutual
theorem reads_lt {h : Heap} : ∀ {d : PyData} {v : Value} {as : List Addr}, Reads h v d as → alike d d = true → ∀ a ∈ as, a < h.objs.size
  | _, _, _, .none, _, a, ha => by cases ha
  | _, _, _, .bool _, _, a, ha => by cases ha
  | _, _, _, .int _ _, _, a, ha => by cases ha
  | _, _, _, .str _ _, _, a, ha => by cases ha
  | _, _, _, .list (xs := xs) ho _ _ r, c, a, ha => by
    rcases List.mem_cons.mp ha with rfl | ha
    · exact Heap.lt_size ho
    · exact readsAll_lt r (by simpa [alike] using c) a ha
  | _, _, _, .tuple (xs := xs) ho _ _ r, c, a, ha => readsAll_lt r (by simpa [alike] using c) a ha
  | _, _, _, .dict _ _ _ _ _, c, a, ha => by simp [alike] at c
theorem readsAll_lt {h : Heap} : ∀ {ds : List PyData} {vs : List Value} {as : List Addr}, ReadsAll h vs ds as → alikeAll ds ds = true → ∀ a ∈ as, a < h.objs.size
  | _, _, _, .nil, _, a, ha => by cases ha
  | _, _, _, .cons (d := d) (ds := ds) r rs, c, a, ha => by
    have c' : alike d d = true ∧ alikeAll ds ds = true := by simpa [alikeAll] using c
    rcases List.mem_append.mp ha with ha | ha
    · exact reads_lt r c'.1 a ha
    · exact readsAll_lt rs c'.2 a ha
end
section
variable {prog : Program} {w : World} {A : Around} {E : Value → Shared → Prop} {s : Shared} {β : Type} {R : Value → β → Prop} {enc : β → PyData}
theorem each_keep {h h' : Heap} (k : ∀ b o, h.get? b = some o → h'.get? b = some o) {vs : List Value} {bs : List β} (er : EachIs (fun v b => ∃ as, Reads h v (enc b) as) vs bs) : EachIs (fun v b => ∃ as, Reads h' v (enc b) as) vs bs :=
  er.mono fun _ _ ⟨as, r⟩ => ⟨as, PyProof.Rows.Reads.keeps k r⟩
/-- sorted(x) -/
theorem sorted_any {x : Value} {U : List Value → List β → Prop} {Q : Value → Shared → Prop}
    (hcol : ∀ {T : List Value → Shared → Prop}, (∀ h' tk us bs, (∀ b o, s.heap.get? b = some o → h'.get? b = some o) → U us bs → T us { s with heap := h', toks := tk }) → wpAny (model prog w) A.in1 (collect x) T E s)
    (hU : ∀ us bs, U us bs → EachIs R us bs ∧ EachIs (fun v b => ∃ as, Reads s.heap v (enc b) as) us bs ∧ AllAlike (bs.map enc) ∧ Srtb (bs.map enc) ∧ bs.length ≤ sizeLine ∧ ∀ b ∈ bs, A.units + 2 + (enc b).depth < cLine)
    (h : ∀ us bs out p h' tk c, U us bs → EachIs R out (bs.mergeSort (dataLe false enc)) → (∀ b o, s.heap.get? b = some o → h'.get? b = some o) → s.heap.get? p = none → h'.get? p = some (seqObj "list" (List.toArray out) c) → Q (.ref p) { s with heap := h', toks := tk }) :
    wpAny (model prog w) A (call (.builtin "sorted") [x]) Q E s := by
  refine call_function_entry_kw kind_sorted plain_sorted entry_sorted (args_sorted1 _) ?_
  unfold Builtin.«sorted»
  refine wpAny_bind (m := checkCount "sorted" 1 1 _) (wpAny_pure ?_)
  refine wpAny_bind (hcol fun h1 tk us bs k1 u => ?_)
  obtain ⟨e, er, hal, hk, hL, hu⟩ := hU us bs u
  have hL' : us.length ≤ sizeLine := by rw [e.length]; exact hL
  refine wpAny_bind (wpAny_newList ?_ hL')
  have ha : (h1.push (seqObj "list" us.toArray 0)).get? h1.objs.size = some (seqObj "list" us.toArray 0) := Heap.get?_push_size _ rfl
  have er' : EachIs (fun v b => ∃ as, Reads (h1.push (seqObj "list" us.toArray 0)) v (enc b) as ∧ h1.objs.size ∉ as) us bs := by
    refine (each_mem er).mono fun v b ⟨⟨as, r⟩, hb⟩ => ⟨as, PyProof.Rows.Reads.keeps (fun c o q => Heap.get?_push_of_some _ (k1 c o q)) r, fun hm => ?_⟩
    have hm' : b ∈ bs := hb
    have al := hal _ (List.mem_map.mpr ⟨b, hm', rfl⟩) _ (List.mem_map.mpr ⟨b, hm', rfl⟩)
    exact Nat.lt_irrefl _ (reads_lt (PyProof.Rows.Reads.keeps k1 r) al _ hm)
  refine wpAny_bind (wpAny_holding (list_sort_t (n := 0) (Q := fun v s' => wpAny (model prog w) A.in1 (ret (.ref h1.objs.size)) _ E s') ha e er' hal hk hL (fun b hb => by have := hu b hb; simp only [Around.in1_units]; omega) fun out hl eo => ?_))
  obtain ⟨c, hc⟩ := sortedHeap_at (out := List.toArray out) ha
  refine wpAny_pure ⟨_, rfl, h us bs out h1.objs.size _ tk c u eo (fun b o q => ?_) (Classical.byContradiction fun z => ?_) hc⟩
  · have q1 := k1 b o q
    have lt := Heap.lt_size q1
    show (sortedHeap _ _ _ _).get? b = _
    rw [sortedHeap_old (Nat.ne_of_lt lt) (by rw [size_push']; exact Nat.lt_succ_of_lt lt)]
    exact Heap.get?_push_of_some _ q1
  · cases e : s.heap.get? h1.objs.size with
    | none => exact z e
    | some o => exact Nat.lt_irrefl _ (Heap.lt_size (k1 _ _ e))
end
end RT
namespace DL
open PySem PySem.Spec PyProof.Rows L2
theorem obj_there {P : Program} {w : World} {H : Hp} {h : Heap} {a : Addr} {o : HO} (x : ObjOk P w H h a o) : ∃ u, h.get? a = some u := by
  cases o with
  | lst xs => obtain ⟨_, _, _, _, e⟩ := x; exact ⟨_, e⟩
  | tup xs => obtain ⟨_, _, _, o, e, _⟩ := x; exact ⟨_, e⟩
  | dK kvs => obtain ⟨_, _, _, _, o, _, _, e, _⟩ := x; exact ⟨_, e⟩
  | dT kvs => obtain ⟨_, _, _, _, o, _, _, e, _⟩ := x; exact ⟨_, e⟩
  | set S n => obtain ⟨o, _, _, _, e, _⟩ := x; exact ⟨_, e⟩
  | ins C dx fs => obtain ⟨_, _, _, e, _⟩ := x; exact ⟨_, e⟩
  | own y => exact x
  | xd fs => obtain ⟨_, ⟨_, _, _, e, _⟩, _⟩ := x; exact ⟨_, e⟩
  | rng lo hi => obtain ⟨_, _, _, e⟩ := x; exact ⟨_, e⟩
  | frz ob u => obtain ⟨e, _⟩ := x; exact ⟨_, e⟩
  | tbl ps => exact ⟨_, x⟩
  | met f y => exact ⟨_, x⟩
  | ext φ => obtain ⟨_, e, _⟩ := x; exact e
theorem free_of {P : Program} {w : World} {H : Hp} {h : Heap} {a : Addr} (k : HOk P w H h) (e : h.get? a = none) : H a = none := by
  cases q : H a with
  | none => rfl
  | some o =>
    obtain ⟨u, eu⟩ := obj_there (k a o q)
    rw [e] at eu
    cases eu
/-! the data of a list, beside its values -/
section
open PySem.W
variable {X : Cx} {pins : List (Addr × Obj)} {σ : L2.St} {H : Hp} {s : Shared}
abbrev PrD := V × PyData
theorem each_vals : ∀ {vs : List V} {us : List Value} {ds : List PyData}, Vals vs us → vs.length = ds.length → EachIs (fun u (b : PrD) => RelV b.1 u) us (vs.zip ds)
  | [], _, _, .nil, _ => .nil
  | v :: vs, _, [], .cons _ _, e => by simp at e
  | v :: vs, _, d :: ds, .cons r t, e => .cons r (each_vals t (by simpa using e))
theorem vals_each : ∀ {bs : List PrD} {us : List Value}, EachIs (fun u (b : PrD) => RelV b.1 u) us bs → Vals (bs.map (·.1)) us
  | _, _, .nil => .nil
  | _, _, .cons r t => .cons r (vals_each t)
theorem dpAll_len {K : PySem.W.Frag} {H : Hp} : ∀ {vs : List V} {ds : List PyData}, DpAll K H vs ds → vs.length = ds.length
  | _, _, .nil => rfl
  | _, _, .cons _ t => congrArg (· + 1) (dpAll_len t)
theorem each_reads (I : Inv X pins σ H s) : ∀ {vs : List V} {us : List Value} {ds : List PyData}, Vals vs us → DpAll X.K H vs ds → EachIs (fun u (b : PrD) => ∃ as, Reads s.heap u b.2 as) us (vs.zip ds)
  | _, _, _, .nil, .nil => .nil
  | _, _, _, .cons r t, .cons h hs => .cons (Dp.reads I _ _ _ h r) (each_reads I t hs)
theorem zip_snd : ∀ {vs : List V} {ds : List PyData}, vs.length = ds.length → (vs.zip ds).map (·.2) = ds
  | [], [], _ => rfl
  | _ :: vs, _ :: ds, e => by
    show _ :: (vs.zip ds).map (·.2) = _
    rw [zip_snd (by simpa using e)]
  | [], _ :: _, e => by simp at e
  | _ :: _, [], e => by simp at e
theorem zip_fst : ∀ {vs : List V} {ds : List PyData}, vs.length = ds.length → (vs.zip ds).map (·.1) = vs
  | [], [], _ => rfl
  | _ :: vs, _ :: ds, e => by
    show _ :: (vs.zip ds).map (·.1) = _
    rw [zip_fst (by simpa using e)]
  | [], _ :: _, e => by simp at e
  | _ :: _, [], e => by simp at e
/-- the values in the order of their data -/
def srtV (vs : List V) (ds : List PyData) : List V := ((vs.zip ds).mergeSort (dataLe false (·.2))).map (·.1)
def srtD (ds : List PyData) : List PyData := ds.mergeSort (dataLe false id)
theorem srt_snd {vs : List V} {ds : List PyData} (e : vs.length = ds.length) : ((vs.zip ds).mergeSort (dataLe false (·.2))).map (·.2) = srtD ds := by
  unfold srtD
  have := sort_maps (r := dataLe false (fun b : PrD => b.2)) (s := dataLe false id) (fun b : PrD => b.2) (l := vs.zip ds) (fun a _ b _ => rfl)
  rw [this, zip_snd e]
theorem srtV_len {vs : List V} {ds : List PyData} (e : vs.length = ds.length) : (srtV vs ds).length = ds.length := by
  unfold srtV
  rw [List.length_map, (List.mergeSort_perm _ _).length_eq, List.length_zip, e, Nat.min_self]
/-- what may be sorted -/
structure SrtOk (ds : List PyData) : Prop where
  al : AllAlike ds
  so : RT.Srtb ds
  len : ds.length ≤ sizeLine
  dep : ∀ d ∈ ds, d.depth ≤ 60
/-- sorted(x), x a list or a tuple that reads as data -/
theorem op_sorted (hu : X.A.units + 66 < cLine) {x : V} {u : Value} {p : Addr} {vs : List V} {ds : List PyData} {Q : VK} (I : Inv X pins σ H s) (r : RelV x u) (hx : x = .ref p) (hs : SqL X.K H p vs ∨ SqT X.K H p vs) (hd : DpAll X.K H vs ds) (ok : SrtOk ds)
    (q : ∀ p, H p = none → Q (.ref p) (upd H p (.lst (srtV vs ds)))) : wpAny (model X.prog X.w) X.A (call (.builtin "sorted") [u]) (EP X pins σ Q) X.xe s := by
  subst hx
  obtain rfl : u = .ref p := r
  have e0 := dpAll_len hd
  have fin : ∀ {us : List Value} {T : String} {o : Obj} {n : Nat}, Vals vs us → (T = "list" ∨ T = "tuple") → s.heap.get? p = some o → o.cls = .type T → o.data = .seq us.toArray n → wpAny (model X.prog X.w) X.A (call (.builtin "sorted") [.ref p]) (EP X pins σ Q) X.xe s := by
    intro us T o n rv hT ho hc hdt
    have hlen : us.length ≤ sizeLine := by rw [← rv.length, e0]; exact ok.len
    refine RT.sorted_any (R := fun u (b : PrD) => RelV b.1 u) (enc := fun b => b.2) (U := fun us' bs => us' = us ∧ bs = vs.zip ds) (fun {T'} k => wpAny_collect_seq p hT ho hc hdt (fun h' kp => ?_) (by rw [List.size_toArray]; exact hlen)) (fun us' bs u => ?_) fun us' bs out p' h' tk c u eo kp np hp => ?_
    · have := k h' s.toks us (vs.zip ds) kp ⟨rfl, rfl⟩
      rw [List.toList_toArray]
      exact this
    · obtain ⟨rfl, rfl⟩ := u
      refine ⟨each_vals rv e0, each_reads I rv hd, by rw [zip_snd e0]; exact ok.al, by rw [zip_snd e0]; exact ok.so, by rw [List.length_zip, e0, Nat.min_self]; exact ok.len, fun b hb => ?_⟩
      have := ok.dep b.2 (by rw [← zip_snd e0]; exact List.mem_map.mpr ⟨b, hb, rfl⟩)
      omega
    · obtain ⟨rfl, rfl⟩ := u
      have np' := free_of I.hok np
      refine ⟨.ref p', _, I.laidN (t' := tk) kp np np' (o := .lst (srtV vs ds)) ⟨by rw [srtV_len e0]; exact ok.len, out, c, vals_each eo, hp⟩, rfl, q p' np'⟩
  rcases hs with hs | hs
  · obtain ⟨its, rv, ⟨o, n, ho, hc, _, hdt⟩, hl⟩ := I.list hs
    exact fin rv (.inl rfl) ho hc hdt
  · obtain ⟨its, rv, ⟨o, ho, hc, n, hdt⟩, hl⟩ := I.tuple hs
    exact fin rv (.inr rfl) ho hc hdt
end
end DL

/-! ### tuple(zip(..)) of two lists -/
namespace RT
open PySem PySem.Spec PyProof.Rows
theorem zip_nolen : typeLookup (.type "zip") "__len__" = pure none := by rw [typeLookup_type, builtinLookup_eq_fast]; kernel_rfl
theorem zip_nohint : typeLookup (.type "zip") "__length_hint__" = pure none := by rw [typeLookup_type, builtinLookup_eq_fast]; kernel_rfl
/-- how the zip stands, i pairs given -/
def ZSt (z TI TO i1 i2 l1 l2 S : Addr) (xs ys : Array Value) (i : Nat) (h : Heap) : Prop :=
  IsPair h TI (.ref i1) (.ref i2) ∧ h.IsListIter i1 l1 i ∧ h.IsListIter i2 l2 i ∧ h.IsList l1 xs ∧ h.IsList l2 ys ∧ (∃ o, h.get? TO = some o) ∧ ((IsZip h z TI TO .none ∧ ∃ a b, IsPair h TO a b) ∨ ∃ T f oT, IsZipHeld h z TI TO T f ∧ h.get? T = some oT ∧ T ≠ z ∧ T ≠ i1 ∧ T ≠ i2 ∧ T ≠ S)
structure ZOff (z TI TO i1 i2 l1 l2 S : Addr) : Prop where
  z : z ≠ S
  TI : TI ≠ S
  TO : TO ≠ S
  i1 : i1 ≠ S
  i2 : i2 ≠ S
  l1 : l1 ≠ S
  l2 : l2 ≠ S
/-- the pairs given -/
def ZGot (z TO i1 i2 S lo : Addr) (xs ys : Array Value) (as : List Addr) (h : Heap) : Prop :=
  as.Pairwise (· < ·) ∧ (∀ a ∈ as, lo ≤ a ∧ a ≠ z ∧ a ≠ TO ∧ a ≠ i1 ∧ a ≠ i2 ∧ a ≠ S ∧ a < h.objs.size) ∧ ∀ (j : Nat) (a : Addr), as[j]? = some a → ∃ x y, xs[j]? = some x ∧ ys[j]? = some y ∧ IsPair h a x y
section
variable {prog : Program} {w : World} {A : Around} {E : Value → Shared → Prop} {z TI TO i1 i2 l1 l2 S lo : Addr} {xs ys : Array Value}
theorem ZSt.up {i : Nat} {h h' : Heap} (O : ZOff z TI TO i1 i2 l1 l2 S) (st : ZSt z TI TO i1 i2 l1 l2 S xs ys i h) (k : ∀ b o, b ≠ S → h.get? b = some o → h'.get? b = some o) : ZSt z TI TO i1 i2 l1 l2 S xs ys i h' := by
  obtain ⟨c1, c2, c3, c4, c5, ⟨oO, cO⟩, c6⟩ := st
  refine ⟨k _ _ O.TI c1, c2.at fun o e => k _ o O.i1 e, c3.at fun o e => k _ o O.i2 e, c4.at fun o e => k _ o O.l1 e, c5.at fun o e => k _ o O.l2 e, ⟨oO, k _ _ O.TO cO⟩, ?_⟩
  rcases c6 with ⟨q, a, b, q2⟩ | ⟨T, f, oT, q1, q2, r1, r2, r3, r4⟩
  · exact .inl ⟨k _ _ O.z q, a, b, k _ _ O.TO q2⟩
  · exact .inr ⟨T, f, oT, k _ _ O.z q1, k _ _ r4 q2, r1, r2, r3, r4⟩
theorem ZGot.up {as : List Addr} {h h' : Heap} (g : ZGot z TO i1 i2 S lo xs ys as h) (k : ∀ b o, b ≠ S → b ≠ z → b ≠ TO → b ≠ i1 → b ≠ i2 → h.get? b = some o → h'.get? b = some o) : ZGot z TO i1 i2 S lo xs ys as h' := by
  obtain ⟨g1, g2, g3⟩ := g
  refine ⟨g1, fun a ha => ?_, fun j a e => ?_⟩
  · obtain ⟨b1, b2, b3, b4, b5, b6, b7⟩ := g2 a ha
    obtain ⟨j, hj, e⟩ := List.mem_iff_getElem.mp ha
    obtain ⟨x, y, _, _, p⟩ := g3 j a (by rw [List.getElem?_eq_getElem hj, e])
    exact ⟨b1, b2, b3, b4, b5, b6, Heap.lt_size (k _ _ b6 b2 b3 b4 b5 p)⟩
  · obtain ⟨x, y, e1, e2, p⟩ := g3 j a e
    obtain ⟨b1, b2, b3, b4, b5, b6, b7⟩ := g2 a (List.mem_of_getElem? e)
    exact ⟨x, y, e1, e2, k _ _ b6 b2 b3 b4 b5 p⟩
/-- one more -/
theorem z_item {i : Nat} {s : Shared} {Q : Option Value → Shared → Prop} (D : ZipApart z TI TO i1 i2 l1 l2) (hS : ∃ o, s.heap.get? S = some o) (h1 : i < xs.size) (h2 : i < ys.size) (st : ZSt z TI TO i1 i2 l1 l2 S xs ys i s.heap)
    (q : ∀ h' x y, xs[i]? = some x → ys[i]? = some y → ZSt z TI TO i1 i2 l1 l2 S xs ys (i + 1) h' → IsPair h' s.heap.objs.size x y → (∀ b o, b ≠ z → b ≠ TO → b ≠ i1 → b ≠ i2 → s.heap.get? b = some o → h'.get? b = some o) → Q (some (.ref s.heap.objs.size)) { s with heap := h' }) :
    wpAny (model prog w) A (pyNext (.ref z)) Q E s := by
  obtain ⟨oS, hS⟩ := hS
  have ex : xs[i]? = some xs[i] := Array.getElem?_eq_getElem h1
  have ey : ys[i]? = some ys[i] := Array.getElem?_eq_getElem h2
  obtain ⟨c1, c2, c3, c4, c5, ⟨oO, cO⟩, c6⟩ := st
  have big : ∀ {c o}, s.heap.get? c = some o → s.heap.objs.size ≠ c := fun e => Nat.ne_of_gt (Heap.lt_size e)
  have b1 : s.heap.objs.size ≠ i1 := by obtain ⟨_, e, _⟩ := id c2; exact big e
  have b2 : s.heap.objs.size ≠ i2 := by obtain ⟨_, e, _⟩ := id c3; exact big e
  rcases c6 with ⟨g, a, b, g2⟩ | ⟨T, f, oT, g, g2, r1, r2, r3, r4⟩
  · refine wpAny_pyNext_zip_item D g c1 g2 c2 c3 c4 c5 ex ey fun h' y1 y2 y3 y4 y5 _ hk => ?_
    refine q h' _ _ ex ey ⟨hk _ _ D.TIz D.TITO D.TIi1 D.TIi2 c1, y3, y4, c4.at fun o e => hk _ o D.l1z D.l1TO D.l1i1 D.l1i2 e, c5.at fun o e => hk _ o D.l2z D.l2TO D.l2i1 D.l2i2 e, ⟨_, y2⟩, .inr ⟨_, false, _, y1, y5, big g, b1, b2, big hS⟩⟩ y5 hk
  · refine wpAny_pyNext_zip_item_held D g g2 c1 c2 c3 c4 c5 ex ey fun h' y1 y3 y4 y5 _ hk => ?_
    refine q h' _ _ ex ey ⟨hk _ _ D.TIz D.TIi1 D.TIi2 c1, y3, y4, c4.at fun o e => hk _ o D.l1z D.l1i1 D.l1i2 e, c5.at fun o e => hk _ o D.l2z D.l2i1 D.l2i2 e, ⟨oO, hk _ _ D.TOz D.TOi1 D.TOi2 cO⟩, .inr ⟨T, true, oT, y1, hk _ _ r1 r2 r3 g2, r1, r2, r3, r4⟩⟩ y5 fun b o d1 d2 d3 d4 e => hk b o d1 d3 d4 e
theorem z_done {i : Nat} {s : Shared} {Q : Option Value → Shared → Prop} (hh : A.handled = none) (D : ZipApart z TI TO i1 i2 l1 l2) (he : xs.size ≤ i ∨ ys.size ≤ i) (st : ZSt z TI TO i1 i2 l1 l2 S xs ys i s.heap)
    (q : ∀ h', (∀ b o, b ≠ z → b ≠ TO → b ≠ i1 → b ≠ i2 → s.heap.get? b = some o → h'.get? b = some o) → Q none { s with heap := h' }) : wpAny (model prog w) A (pyNext (.ref z)) Q E s := by
  have hend : xs[i]? = none ∨ ys[i]? = none := he.imp (fun h => Array.getElem?_eq_none h) fun h => Array.getElem?_eq_none h
  obtain ⟨c1, c2, c3, c4, c5, ⟨oO, cO⟩, c6⟩ := st
  rcases c6 with ⟨g, a, b, g2⟩ | ⟨T, f, oT, g, g2, r1, r2, r3, r4⟩
  · exact wpAny_pyNext_zip_end hh D g c1 g2 c2 c3 c4 c5 hend fun h' hk => q h' hk
  · exact wpAny_pyNext_zip_end_held hh D g g2 c1 c2 c3 c4 c5 hend fun h' hk => q h' fun b o d1 d2 d3 d4 e => hk b o d1 d3 d4 e
/-- the list that takes them -/
theorem z_loop {R : Result → Shared → Prop} {n : Nat} (hh : A.in1.handled = none) (D : ZipApart z TI TO i1 i2 l1 l2) (O : ZOff z TI TO i1 i2 l1 l2 S) (hn : n ≤ sizeLine) (hnx : n ≤ xs.size) (hny : n ≤ ys.size) (hend : xs.size ≤ n ∨ ys.size ≤ n) (res : Value) :
    ∀ (k i : Nat) (s : Shared) (acc : Array Value) (c : Nat) (as : List Addr), n - i = k → i ≤ n → as.length = i → lo ≤ s.heap.objs.size → ZSt z TI TO i1 i2 l1 l2 S xs ys i s.heap → ZGot z TO i1 i2 S lo xs ys as s.heap → acc.toList = as.map Value.ref →
    s.heap.get? S = some { cls := .type "list", dict := none, data := .seq acc c, slots := #[] } →
    (∀ h' acc' c' as', (∀ b o, b ≠ S → b ≠ z → b ≠ TO → b ≠ i1 → b ≠ i2 → s.heap.get? b = some o → h'.get? b = some o) → as'.length = n → ZGot z TO i1 i2 S lo xs ys as' h' → acc'.toList = as'.map Value.ref → h'.get? S = some { cls := .type "list", dict := none, data := .seq acc' c', slots := #[] } → R (.ok (.ret res)) { s with heap := h' }) →
    codeAny (model prog w) A (.builtin "list.extend.loop" ⟨[.ref S, .ref z, res], []⟩) R s := by
  intro k
  induction k with
  | zero =>
    intro i s acc c as hk hi hl hlo st got hacc hS hR
    obtain rfl : i = n := by omega
    refine codeAny_builtin F.entry_extend_loop ?_
    rw [Around.under_plainId F.plain_extend_loop _]
    refine wpAny_bind (z_done hh D hend st fun h' hk => ?_)
    exact wpAny_pure (hR h' acc c as (fun b o _ d1 d2 d3 d4 e => hk b o d1 d2 d3 d4 e) hl (got.up fun b o _ d1 d2 d3 d4 e => hk b o d1 d2 d3 d4 e) hacc (hk S _ O.z.symm O.TO.symm O.i1.symm O.i2.symm hS))
  | succ k ih =>
    intro i s acc c as hk hi hl hlo st got hacc hS hR
    refine codeAny_builtin F.entry_extend_loop ?_
    rw [Around.under_plainId F.plain_extend_loop _]
    refine wpAny_bind (z_item D ⟨_, hS⟩ (by omega) (by omega) st fun h1 x y ex ey st1 pr k1 => ?_)
    have hS1 := k1 S _ O.z.symm O.TO.symm O.i1.symm O.i2.symm hS
    have hsa : acc.size = i := by rw [← Array.length_toList, hacc, List.length_map, hl]
    have hne : s.heap.objs.size ≠ S := Nat.ne_of_gt (Heap.lt_size hS)
    have up : ∀ b o, b ≠ S → h1.get? b = some o → (h1.update S (Obj.mapSeq (·.push (Value.ref s.heap.objs.size)))).get? b = some o := fun b o hb e => (Heap.get?_update_other _ _ (Ne.symm hb)).trans e
    have st2 := st1.up O up
    have big : ∀ {c o}, s.heap.get? c = some o → s.heap.objs.size ≠ c := fun e => Nat.ne_of_gt (Heap.lt_size e)
    have bz : s.heap.objs.size ≠ z := by
      rcases st.2.2.2.2.2.2 with ⟨q, _⟩ | ⟨_, _, _, q, _⟩ <;> exact big q
    have bt : s.heap.objs.size ≠ TO := by obtain ⟨_, e⟩ := st.2.2.2.2.2.1; exact big e
    have b1 : s.heap.objs.size ≠ i1 := by obtain ⟨_, e, _⟩ := st.2.1; exact big e
    have b2 : s.heap.objs.size ≠ i2 := by obtain ⟨_, e, _⟩ := st.2.2.1; exact big e
    have got2 : ZGot z TO i1 i2 S lo xs ys (as ++ [s.heap.objs.size]) (h1.update S (Obj.mapSeq (·.push (Value.ref s.heap.objs.size)))) := by
      have g := got.up (h' := h1.update S (Obj.mapSeq (·.push (Value.ref s.heap.objs.size)))) fun b o d0 d1 d2 d3 d4 e => up b o d0 (k1 b o d1 d2 d3 d4 e)
      refine ⟨List.pairwise_append.mpr ⟨got.1, List.pairwise_singleton _ _, fun a ha b hb => ?_⟩, fun a ha => ?_, fun j a e => ?_⟩
      · rw [List.mem_singleton.mp hb]; exact (got.2.1 a ha).2.2.2.2.2.2
      · rcases List.mem_append.mp ha with ha | ha
        · exact g.2.1 a ha
        · rw [List.mem_singleton.mp ha]
          exact ⟨hlo, bz, bt, b1, b2, hne, Heap.lt_size (up _ _ hne pr)⟩
      · by_cases hj : j < as.length
        · rw [List.getElem?_append_left hj] at e
          exact g.2.2 j a e
        · have hj2 : j = as.length := by
            have := (List.getElem?_eq_some_iff.mp e).1
            simp at this; omega
          subst hj2
          rw [List.getElem?_append_right (Nat.le_refl _)] at e
          have ea : s.heap.objs.size = a := by simpa using e
          subst ea
          exact ⟨x, y, by rw [hl]; exact ex, by rw [hl]; exact ey, up _ _ hne pr⟩
    show wpAny _ A.in1 (updateSeq S (·.push (Value.ref s.heap.objs.size)) >>= _) _ _ _
    refine wpAny_bind (wpAny_updateSeq hS1 rfl (wpAny_pure ⟨plainId_quiet F.plain_extend_loop _, ?_⟩) (by rw [hsa]; omega) (by show (acc.push _).size ≤ sizeLine + 1; rw [Array.size_push, hsa]; omega))
    refine ih (i + 1) _ (acc.push (.ref s.heap.objs.size)) _ (as ++ [s.heap.objs.size]) (by omega) (by omega) (by simp [hl]) ?_ st2 got2 (by rw [Array.toList_push, hacc]; simp) (Heap.get?_update_self _ hS1 rfl) fun h' acc' c' as' kk e1 e2 e3 e4 => ?_
    · have := Heap.lt_size (up _ _ hne pr)
      exact Nat.le_of_lt (Nat.lt_of_le_of_lt hlo this)
    · exact hR h' acc' c' as' (fun b o d0 d1 d2 d3 d4 e => kk b o d0 d1 d2 d3 d4 (up b o d0 (k1 b o d1 d2 d3 d4 e))) e1 e2 e3 e4
def zOk (z TI TO i1 i2 l1 l2 : Addr) (xs ys : Array Value) (h : Heap) : Prop := IsZip h z TI TO .none ∧ IsPair h TI (.ref i1) (.ref i2) ∧ (∃ a b, IsPair h TO a b) ∧ h.IsListIter i1 l1 0 ∧ h.IsListIter i2 l2 0 ∧ h.IsList l1 xs ∧ h.IsList l2 ys
theorem zOk.at {h h' : Heap} (o : zOk z TI TO i1 i2 l1 l2 xs ys h) (k : ∀ b ob, h.get? b = some ob → h'.get? b = some ob) : zOk z TI TO i1 i2 l1 l2 xs ys h' := by
  obtain ⟨c1, c2, ⟨a, b, c3⟩, c4, c5, c6, c7⟩ := o
  exact ⟨k _ _ c1, k _ _ c2, ⟨a, b, k _ _ c3⟩, c4.at fun o e => k _ o e, c5.at fun o e => k _ o e, c6.at fun o e => k _ o e, c7.at fun o e => k _ o e⟩
theorem z_collect {s : Shared} {R : List Value → Shared → Prop} (hh : A.handled = none) (D : ZipApart z TI TO i1 i2 l1 l2) (hz : zOk z TI TO i1 i2 l1 l2 xs ys s.heap) (hx : xs.size ≤ sizeLine)
    (q : ∀ h' as, (∀ b o, b ≠ z → b ≠ TO → b ≠ i1 → b ≠ i2 → s.heap.get? b = some o → h'.get? b = some o) → as.length = min xs.size ys.size → ZGot z TO i1 i2 s.heap.objs.size s.heap.objs.size xs ys as h' → R (as.map Value.ref) { s with heap := h' }) :
    wpAny (model prog w) A (collect (.ref z)) R E s := by
  have lt : ∀ {c o}, s.heap.get? c = some o → c ≠ s.heap.objs.size := fun e => Nat.ne_of_lt (Heap.lt_size e)
  have O : ZOff z TI TO i1 i2 l1 l2 s.heap.objs.size := by
    obtain ⟨c1, c2, ⟨a, b, c3⟩, ⟨_, c4, _⟩, ⟨_, c5, _⟩, ⟨_, c6, _⟩, ⟨_, c7, _⟩⟩ := hz
    exact ⟨lt c1, lt c2, lt c3, lt c4, lt c5, lt c6, lt c7⟩
  have hTz : ∀ {t : Shared}, t.heap.get? z = some { cls := .type "zip", dict := none, data := .fields #[.none, .bool false, .bool false, .ref TI, .ref TO], slots := #[] } → t.TypeIs (.ref z) "zip" := fun e => ⟨_, e, rfl⟩
  unfold collect
  refine wpAny_bind (wpAny_runValue (codeAny_builtin F.entry_proto_collect ?_))
  rw [Around.under_plainId F.plain_proto_collect _]
  refine wpAny_bind (wpAny_newObj_type ?_)
  refine wpAny_pure ⟨plainId_quiet F.plain_list_iadd _, codeAny_builtin F.entry_list_iadd ?_⟩
  rw [Around.under_plainId F.plain_list_iadd _]
  generalize hS0 : ({ cls := .type "list", data := .seq ([] : List Value).toArray } : Obj) = oS
  have zok1 := hz.at (h' := s.heap.push oS) fun b ob e => Heap.get?_push_of_some _ e
  have gS : (s.heap.push oS).get? s.heap.objs.size = some oS := by subst hS0; exact Heap.get?_push_size _ rfl
  show wpAny _ A.in1 (Builtin.List.listExtendWith (.ref s.heap.objs.size) (.ref z) (.ref s.heap.objs.size)) _ _ _
  unfold Builtin.List.listExtendWith
  refine wpAny_bind (wpAny_typeOf (hTz zok1.1) ?_)
  have d1 : Builtin.List.listSameRef (.ref s.heap.objs.size) (.ref z) = false := by simp [Builtin.List.listSameRef, O.z.symm]
  have d2 : (Value.type "zip" == Value.type "list") = false := by decide
  have d3 : (Value.type "zip" == Value.type "tuple") = false := by decide
  simp only [d1, d2, d3, Bool.or_false, Bool.false_eq_true, if_false]
  refine wpAny_bind (wpAny_pyIter_zip zok1.1 ?_)
  refine wpAny_bind (wpAny_holding ?_)
  unfold Builtin.List.listLengthHint
  refine wpAny_bind (wpAny_specialOf (hTz zok1.1) zip_nolen ?_)
  refine wpAny_bind (wpAny_specialOf (hTz zok1.1) zip_nohint ?_)
  refine wpAny_pure ?_
  refine wpAny_bind (wpAny_rule ?_)
  refine wpAny_bind ?_
  subst hS0
  refine wpAny_bind (wpAny_updateSeq gS rfl ?_)
  have gS2 := Heap.get?_update_self (Obj.mapSeq (·.push Value.none)) gS rfl
  refine wpAny_updateSeq gS2 rfl ?_
  have gS3 := Heap.get?_update_self (Obj.mapSeq (·.pop)) gS2 rfl
  generalize hH : ((s.heap.push { cls := .type "list", data := .seq ([] : List Value).toArray }).update s.heap.objs.size (Obj.mapSeq (·.push Value.none))).update s.heap.objs.size (Obj.mapSeq (·.pop)) = h3 at gS3 ⊢
  have k3 : ∀ b o, s.heap.get? b = some o → h3.get? b = some o := fun b o e => by
    have nb := (lt e).symm
    rw [← hH]
    exact (Heap.get?_update_other _ _ nb).trans ((Heap.get?_update_other _ _ nb).trans (Heap.get?_push_of_some _ e))
  obtain ⟨c1, c2, c3, c4, c5, c6, c7⟩ := hz.at k3
  have st : ZSt z TI TO i1 i2 l1 l2 s.heap.objs.size xs ys 0 h3 := ⟨c2, c4, c5, c6, c7, (let ⟨_, _, e⟩ := c3; ⟨_, e⟩), .inl ⟨c1, c3⟩⟩
  refine wpAny_pure ⟨plainId_quiet F.plain_extend_loop _, z_loop (lo := s.heap.objs.size) (xs := xs) (ys := ys) (n := min xs.size ys.size) hh D O (by omega) (by omega) (by omega) (by omega) _ _ 0 { s with heap := h3 } #[] _ [] rfl (Nat.zero_le _) rfl ?_ st ⟨.nil, (fun a ha => by cases ha), (fun j a e => by simp at e)⟩ rfl gS3 fun h' acc' c' as' kk e1 e2 e3 e4 => ?_⟩
  · exact Nat.le_of_lt (Heap.lt_size gS3)
  · show wpAny _ A (load s.heap.objs.size >>= _) _ _ _
    refine wpAny_bind (wpAny_load e4 (wpAny_pure ?_))
    show R acc'.toList _
    rw [e3]
    exact q h' as' (fun b o d1 d2 d3 d4 e => kk b o (lt e) d1 d2 d3 d4 (k3 b o e)) e1 e2
def zOut (z TO i1 i2 : Addr) (xs ys : Array Value) (h0 h' : Heap) (as : List Addr) : Prop := (∀ b o, b ≠ z → b ≠ TO → b ≠ i1 → b ≠ i2 → h0.get? b = some o → h'.get? b = some o) ∧ as.length = min xs.size ys.size ∧ ZGot z TO i1 i2 h0.objs.size h0.objs.size xs ys as h'
theorem z_tuple {s : Shared} {Q : Value → Shared → Prop} (hh : A.handled = none) (D : ZipApart z TI TO i1 i2 l1 l2) (hz : zOk z TI TO i1 i2 l1 l2 xs ys s.heap) (hx : xs.size ≤ sizeLine)
    (q : ∀ h' as, zOut z TO i1 i2 xs ys s.heap h' as → Q (.ref h'.objs.size) { s with heap := h'.push { cls := .type "tuple", data := .seq (as.map Value.ref).toArray } }) : wpAny (model prog w) A (call (.type "tuple") [.ref z]) Q E s := by
  have new : codeAny (model prog w) A.in1 (.call (.builtin "tuple.__new__") ⟨[.type "tuple", .ref z], []⟩) (wants (fun v s1 => s1.TypeIs v "tuple" ∧ Q v s1) E) s := by
    refine codeAny_of_tree ?_
    refine wpAny_bind (m := checkBuiltinCall "tuple.__new__" ⟨[.type "tuple", .ref z], []⟩) (wpAny_of_eq (F.newCall_tuple_1 _) (wpAny_pure ?_))
    refine ⟨plainId_quiet F.plain_tuple_new _, codeAny_builtin F.entry_tuple_new ?_⟩
    rw [Around.under_plainId F.plain_tuple_new _]
    have g1 := sub_tuple_self
    have g2 := init_tuple_lookup
    have g3 := madeHere_tuple
    have hTz : s.TypeIs (.ref z) "zip" := ⟨_, hz.1, rfl⟩
    wp_walk using wpAny_typeOf hTz, z_collect (A := A.in1.in1) hh D hz hx
    intro h' as k1 k2 k3
    have hl : (as.map Value.ref).toArray.size ≤ sizeLine := by simp [k2]; omega
    show wpAny _ _ (Builtin.Tuple.tupleExact (as.map Value.ref).toArray >>= fun v' => ret v') _ _ _
    unfold Builtin.Tuple.tupleExact
    refine wpAny_bind (wpAny_newObj_type ?_ (by show (as.map Value.ref).toArray.size ≤ sizeLine; exact hl))
    refine wpAny_pure ?_
    exact ⟨⟨_, Heap.get?_push_size _ rfl, rfl⟩, q h' as ⟨k1, k2, k3⟩⟩
  refine callType_codes (Q₁ := fun v s1 => s1.TypeIs v "tuple" ∧ Q v s1) F.called_tuple (F.typeCall_tuple_1 _) F.entry_object_init new fun v s1 h1 => ?_
  exact ⟨h1.1, F.args_object_init_2 v _, object_init_meets F.called_tuple.init.lookup F.called_tuple.made (by decide) prog w A.in1 _ s1 ⟨h1.1, rfl, h1.2⟩⟩
end
end RT

namespace DL
open PySem PySem.Spec PyProof.Rows L2

/-! ### values, objects, worlds -/
inductive Vl where | d (x : PyData) | loc (n : Nat) | scr (ns : List Int)
inductive Ob where
  | lst (xs : List Vl) | dk (kvs : List (Key × Vl)) | dd (n : Nat) (kvs : List (NestedKey × Vl)) | ins (c : Str) (fs : List (Str × Vl)) | dead
abbrev Store := List Ob
abbrev Rho := List (Option Vl)
inductive Rs (α : Type) where
  | ok (a : α) (S : Store) | ex (c : Str) (fs : List (Str × PyData)) (S : Store) | bad
abbrev M (α : Type) := Store → Rs α
def Rs.bind {α β : Type} (r : Rs α) (g : α → M β) : Rs β :=
  match r with
  | .ok a S => g a S
  | .ex c fs S => .ex c fs S
  | .bad => .bad
def bnd {α β : Type} (m : M α) (g : α → M β) : M β := fun S => (m S).bind g
def pur {α : Type} (a : α) : M α := fun S => .ok a S
def bad {α : Type} : M α := fun _ => .bad
def ofO {α : Type} (o : Option α) : M α := match o with
  | some a => pur a
  | none => bad

/-- the text's own classes, the world -/
structure Ctx where
  cls : Str → Option Addr
  w : World
instance : CoeFun Ctx fun _ => Str → Option Addr := ⟨Ctx.cls⟩
/-- a dict whose keys are tuples, its entries raw -/
def rawD (w : World) (d : Addr) (xs : List (NestedKey × Addr × V)) : HO := .ext fun h => ∃ vs : List Value, Vals (xs.map (·.2.2)) vs ∧ (d == sysModules) = false ∧
  ∃ o es ep, h.get? d = some o ∧ o.ExactDict ∧ o.data = .dict es ep ∧ es.toList = (xs.zip vs).map (fun p => (⟨p.1.1.hash w, .ref p.1.2.1, p.2⟩ : DictEntry)) ∧ (xs.map (·.1)).Nodup
mutual
/-- the datum of a key -/
def keyD : NestedKey → PyData
  | .none => .none
  | .num i => .int i
  | .text x => .str x
  | .tup ks => .tuple (keyDs ks)
def keyDs : List NestedKey → List PyData
  | [] => []
  | k :: ks => keyD k :: keyDs ks
end
structure Wd where
  z : Hp
  f : Nat → Addr
  n : Nat
structure Le (W W' : Wd) : Prop where
  z : Same W.z W'.z
  n : W.n ≤ W'.n
  f : ∀ i, i < W.n → W'.f i = W.f i
theorem Le.refl (W : Wd) : Le W W := ⟨Same.refl _, Nat.le_refl _, fun _ _ => rfl⟩
theorem Le.trans {A B C : Wd} (a : Le A B) (b : Le B C) : Le A C :=
  ⟨a.z.trans b.z, Nat.le_trans a.n b.n, fun i h => (b.f i (Nat.lt_of_lt_of_le h a.n)).trans (a.f i h)⟩

mutual
/-- data that stands in H: its lists are H's own -/
inductive Dz (K : PySem.W.Frag) (H : Hp) : V → PyData → Prop
  | non : Dz K H .non .none
  | bl (b : Bool) : Dz K H (.bl b) (.bool b)
  | int (i : Int) : Dz K H (.int i) (.int i)
  | str (x : Str) : Dz K H (.str x) (.str x)
  | lst {a : Addr} {xs : List V} {ds : List PyData} : H a = some (.lst xs) → DzAll K H xs ds → Dz K H (.ref a) (.list ds)
  | tup {a : Addr} {xs : List V} {ds : List PyData} : SqT K H a xs → DzAll K H xs ds → Dz K H (.ref a) (.tuple ds)
inductive DzAll (K : PySem.W.Frag) (H : Hp) : List V → List PyData → Prop
  | nil : DzAll K H [] []
  | cons {v : V} {vs : List V} {d : PyData} {ds : List PyData} : Dz K H v d → DzAll K H vs ds → DzAll K H (v :: vs) (d :: ds)
end
mutual
theorem dz_dp {K : PySem.W.Frag} {H : Hp} : ∀ {v : V} {x : PyData}, Dz K H v x → Dp K H v x
  | _, _, .non => .non
  | _, _, .bl b => .bl b
  | _, _, .int i => .int i
  | _, _, .str s => .str s
  | _, _, .lst h hs => .lst (.inl (.inl h)) (dzAll_dp hs)
  | _, _, .tup h hs => .tup h (dzAll_dp hs)
theorem dzAll_dp {K : PySem.W.Frag} {H : Hp} : ∀ {vs : List V} {xs : List PyData}, DzAll K H vs xs → DpAll K H vs xs
  | _, _, .nil => .nil
  | _, _, .cons h t => .cons (dz_dp h) (dzAll_dp t)
end
section
variable (K : PySem.W.Frag)
def RV (W : Wd) : Vl → V → Prop
  | .d x, v => Dz K W.z v x ∧ x.canLay0 = true
  | .loc n, v => n < W.n ∧ v = .ref (W.f n)
  | .scr ns, v => ∃ a, v = .ref a ∧ SqL K W.z a (ns.map V.int)
abbrev RVs (W : Wd) : List Vl → List V → Prop := Paired (RV K W)
abbrev RE (W : Wd) : Rho → L2.St → Prop := Paired fun (o : Option Vl) (p : Option V) => ∀ d, o = some d → ∃ v, p = some v ∧ RV K W d v
def RO (C : Ctx) (W : Wd) : Ob → HO → Prop
  | .lst xs, o => ∃ vs, o = .lst vs ∧ RVs K W xs vs
  | .dk kvs, o => ∃ kvs', o = .dK kvs' ∧ Paired (fun (p : Key × Vl) (q : Key × V) => p.1 = q.1 ∧ RV K W p.2 q.2) kvs kvs'
  | .dd n kvs, o => ∃ xs, n < W.n ∧ o = rawD C.w (W.f n) xs ∧ Paired (fun (p : NestedKey × Vl) (q : NestedKey × Addr × V) => p.1 = q.1 ∧ Dz K W.z (.ref q.2.1) (keyD q.1) ∧ q.1.depth ≤ 8 ∧ RV K W p.2 q.2.2) kvs xs
  | .ins c fs, o => ∃ a dx fs', o = .ins a dx fs' ∧ C c = some a ∧ Paired (fun (p : Str × Vl) (q : Str × V) => p.1 = q.1 ∧ RV K W p.2 q.2) fs fs'
  | .dead, _ => False
end
mutual
theorem dz_mono {K : PySem.W.Frag} {H H' : Hp} (e : Same H H') : ∀ {v : V} {x : PyData}, Dz K H v x → Dz K H' v x
  | _, _, .non => .non
  | _, _, .bl b => .bl b
  | _, _, .int i => .int i
  | _, _, .str s => .str s
  | _, _, .lst h hs => .lst (e _ _ h) (dzAll_mono e hs)
  | _, _, .tup h hs => .tup (by
      rcases h with (h | ⟨o, h⟩) | h
      · exact .inl (.inl (e _ _ h))
      · exact .inl (.inr ⟨o, e _ _ h⟩)
      · exact .inr h) (dzAll_mono e hs)
theorem dzAll_mono {K : PySem.W.Frag} {H H' : Hp} (e : Same H H') : ∀ {vs : List V} {xs : List PyData}, DzAll K H vs xs → DzAll K H' vs xs
  | _, _, .nil => .nil
  | _, _, .cons h t => .cons (dz_mono e h) (dzAll_mono e t)
end
theorem same_tup {K : PySem.W.Frag} {H H' : Hp} {a : Addr} {xs : List V} (e : Same H H') (h : SqT K H a xs) : SqT K H' a xs := by
  rcases h with (h | ⟨o, h⟩) | h
  · exact .inl (.inl (e _ _ h))
  · exact .inl (.inr ⟨o, e _ _ h⟩)
  · exact .inr h
section
variable {K : PySem.W.Frag} {C : Ctx} {W W' : Wd}
theorem RV.mono (l : Le W W') {d : Vl} {v : V} (h : RV K W d v) : RV K W' d v := by
  cases d with
  | d x => exact ⟨dz_mono l.z h.1, h.2⟩
  | loc n => exact ⟨Nat.lt_of_lt_of_le h.1 l.n, by rw [l.f n h.1]; exact h.2⟩
  | scr ns => obtain ⟨a, e, h⟩ := h; exact ⟨a, e, l.z.seq h⟩
theorem RVs.mono (l : Le W W') {d : List Vl} {v : List V} (h : RVs K W d v) : RVs K W' d v := Paired.mapP h fun _ _ => RV.mono l
theorem RE.mono (l : Le W W') {d : Rho} {v : L2.St} (h : RE K W d v) : RE K W' d v := Paired.mapP h fun _ _ h d e => by
  obtain ⟨v, h1, h2⟩ := h d e
  exact ⟨v, h1, h2.mono l⟩
theorem RO.mono (l : Le W W') {o : Ob} {h : HO} (r : RO K C W o h) : RO K C W' o h := by
  cases o with
  | lst xs => obtain ⟨vs, e, r⟩ := r; exact ⟨vs, e, r.mono l⟩
  | dk kvs => obtain ⟨vs, e, r⟩ := r; exact ⟨vs, e, Paired.mapP r fun _ _ h => ⟨h.1, h.2.mono l⟩⟩
  | dd n kvs =>
    obtain ⟨xs, hn, e, r⟩ := r
    exact ⟨xs, Nat.lt_of_lt_of_le hn l.n, by rw [l.f n hn]; exact e, Paired.mapP r fun _ _ h => ⟨h.1, dz_mono l.z h.2.1, h.2.2.1, h.2.2.2.mono l⟩⟩
  | ins c fs => obtain ⟨a, dx, vs, e, r1, r⟩ := r; exact ⟨a, dx, vs, e, r1, Paired.mapP r fun _ _ h => ⟨h.1, h.2.mono l⟩⟩
  | dead => exact r
end
def live (S : Store) (n : Nat) : Prop := ∃ o, S[n]? = some o ∧ o ≠ .dead
theorem live.lt {S : Store} {n : Nat} (h : live S n) : n < S.length := by
  obtain ⟨o, e, _⟩ := h
  exact (List.getElem?_eq_some_iff.mp e).1
structure SR (K : PySem.W.Frag) (C : Ctx) (W : Wd) (S : Store) (H : Hp) : Prop where
  len : W.n = S.length
  sub : Same W.z H
  at_ : ∀ n o, S[n]? = some o → o ≠ .dead → W.z (W.f n) = none ∧ ∃ ho, H (W.f n) = some ho ∧ RO K C W o ho
  inj : ∀ n m, live S n → live S m → W.f n = W.f m → n = m
structure Tr (W : Wd) (S : Store) (H : Hp) (W' : Wd) (S' : Store) (H' : Hp) : Prop where
  le : Le W W'
  keep : ∀ a o, H a = some o → (∀ n, live S n → W.f n ≠ a) → H' a = some o
  there : ∀ a, H' a = none → H a = none
  fresh : ∀ a, W'.z a ≠ none → W.z a ≠ none ∨ H a = none ∨ ∃ n, live S n ∧ W.f n = a
  old : ∀ n, live S' n → n < W.n → live S n
  new : ∀ n, live S' n → W.n ≤ n → H (W'.f n) = none
theorem Tr.refl {K : PySem.W.Frag} {C : Ctx} {W : Wd} {S : Store} {H : Hp} (s : SR K C W S H) : Tr W S H W S H :=
  ⟨Le.refl W, fun _ _ h _ => h, fun _ h => h, fun _ h => .inl h, fun _ h _ => h, fun n h l => absurd h.lt (by rw [← s.len]; omega)⟩
theorem Tr.trans {W W1 W2 : Wd} {S S1 S2 : Store} {H H1 H2 : Hp} (a : Tr W S H W1 S1 H1) (b : Tr W1 S1 H1 W2 S2 H2) : Tr W S H W2 S2 H2 where
  le := a.le.trans b.le
  keep := fun c o h hn => b.keep c o (a.keep c o h hn) fun n hl e => by
    by_cases hw : n < W.n
    · exact hn n (a.old n hl hw) ((a.le.f n hw).symm.trans e)
    · have := a.new n hl (by omega)
      rw [e, h] at this
      cases this
  there := fun c h => a.there c (b.there c h)
  fresh := fun c h => by
    rcases b.fresh c h with h | h | ⟨n, hl, e⟩
    · exact a.fresh c h
    · exact .inr (.inl (a.there c h))
    · by_cases hw : n < W.n
      · exact .inr (.inr ⟨n, a.old n hl hw, (a.le.f n hw).symm.trans e⟩)
      · exact .inr (.inl (by rw [← e]; exact a.new n hl (by omega)))
  old := fun n hl hw => a.old n (b.old n hl (Nat.lt_of_lt_of_le hw a.le.n)) hw
  new := fun n hl hw => by
    by_cases h1 : n < W1.n
    · rw [b.le.f n h1]
      exact a.new n (b.old n hl h1) hw
    · exact a.there _ (b.new n hl (by omega))

/-! ### what a result asks -/
abbrev XD := Wd → Str → List (Str × PyData) → Store → Hp → Prop
def Run {α β : Type} (K : PySem.W.Frag) (C : Ctx) (Ex : XD) (RA : Wd → α → β → Prop) (r : Rs α) (W : Wd) (S : Store) (H : Hp) (Q : β → Hp → Prop) : Prop :=
  match r with
  | .ok a S' => ∀ W' H' v, Tr W S H W' S' H' → SR K C W' S' H' → RA W' a v → Q v H'
  | .ex c fs S' => ∀ W' H', Tr W S H W' S' H' → SR K C W' S' H' → Ex W' c fs S' H'
  | .bad => False
section
variable {α β α' β' : Type} {K : PySem.W.Frag} {C : Ctx} {Ex : XD} {RA : Wd → α → β → Prop} {RB : Wd → α' → β' → Prop} {W W1 : Wd} {S S1 : Store} {H H1 : Hp}
/-- from a later world -/
theorem Run.later {r : Rs α} {Q : β → Hp → Prop} (t : Tr W S H W1 S1 H1) (h : Run K C Ex RA r W S H Q) : Run K C Ex RA r W1 S1 H1 Q := by
  cases r with
  | ok a S' => exact fun W' H' v t' s' ra => h W' H' v (t.trans t') s' ra
  | ex c fs S' => exact fun W' H' t' s' => h W' H' (t.trans t') s'
  | bad => exact h
theorem Run.bnd {m : M α} {g : α → M α'} {Q : β' → Hp → Prop} {Q1 : β → Hp → Prop} (h : Run K C Ex RB (DL.bnd m g S) W S H Q)
    (k : ∀ a S' W' H' v, Tr W S H W' S' H' → SR K C W' S' H' → RA W' a v → Run K C Ex RB (g a S') W' S' H' Q → Q1 v H') : Run K C Ex RA (m S) W S H Q1 := by
  unfold DL.bnd at h
  cases e : m S with
  | ok a S' => rw [e] at h; exact fun W' H' v t' s' ra => k a S' W' H' v t' s' ra (Run.later t' h)
  | ex c fs S' => rw [e] at h; exact h
  | bad => rw [e] at h; exact h
theorem Run.imp {r : Rs α} {Q Q' : β → Hp → Prop} (h : Run K C Ex RA r W S H Q) (k : ∀ v H', Q v H' → Q' v H') : Run K C Ex RA r W S H Q' := by
  cases r with
  | ok a S' => exact fun W' H' v t' s' ra => k _ _ (h W' H' v t' s' ra)
  | ex c fs S' => exact h
  | bad => exact h
/-- what comes now -/
theorem Run.now {a : α} {Q : β → Hp → Prop} {v : β} (s : SR K C W S H) (h : Run K C Ex RA (.ok a S) W S H Q) (ra : RA W a v) : Q v H := h W H v (Tr.refl s) s ra
end

/-! ### readings -/
section
variable (K : PySem.W.Frag) (C : Ctx) (Ex : L2.St → XD)
def dT (ev : Rho → M Vl) : TE := fun σ H Q => ∃ W S ρ, SR K C W S H ∧ RE K W ρ σ ∧ Run K C (Ex σ) (RV K) (ev ρ S) W S H Q
def RBool : Wd → Bool → Bool → Prop := fun _ a b => a = b
def dB (ev : Rho → M Bool) : TT := fun σ H Q => ∃ W S ρ, SR K C W S H ∧ RE K W ρ σ ∧ Run K C (Ex σ) RBool (ev ρ S) W S H Q
def dA (ev : Rho → M (List Vl)) : TA := fun σ H Q => ∃ W S ρ, SR K C W S H ∧ RE K W ρ σ ∧ Run K C (Ex σ) (RVs K) (ev ρ S) W S H Q
end
theorem PE.weak {X : Cx} {e : Expr} {t t' : TE} (h : PE X e t) (k : ∀ σ H Q, t' σ H Q → t σ H Q) : PE X e t' := ⟨fun pins s σ H Q I q => h.run pins s σ H Q I (k σ H Q q)⟩
theorem PT.weak {X : Cx} {e : Expr} {t t' : TT} (h : PT X e t) (k : ∀ σ H Q, t' σ H Q → t σ H Q) : PT X e t' := ⟨fun pins s σ H Q I q => h.run pins s σ H Q I (k σ H Q q)⟩
theorem PA.weak {X : Cx} {e : List Expr} {t t' : TA} (h : PA X e t) (k : ∀ σ H Q, t' σ H Q → t σ H Q) : PA X e t' := ⟨fun pos pins s σ H Q I q => h.run pos pins s σ H Q I (k σ H Q q)⟩
theorem PS.weak {X : Cx} {e : Stmt} {t t' : TS} (h : PS X e t) (k : ∀ D σ H, t' D σ H → t D σ H) : PS X e t' := ⟨fun pins s σ H D I q => h.run pins s σ H D I (k D σ H q)⟩
theorem PSs.weak {X : Cx} {e : List Stmt} {t t' : TS} (h : PSs X e t) (k : ∀ D σ H, t' D σ H → t D σ H) : PSs X e t' := ⟨fun pins s σ H D I q => h.run pins s σ H D I (k D σ H q)⟩
section
variable {K : PySem.W.Frag} {C : Ctx} {Ex : L2.St → XD}
/-- one part, then what is done with it -/
theorem dT.one {α' β' : Type} {RB : Wd → α' → β' → Prop} {ev : Rho → M Vl} {g : Vl → M α'} {σ : L2.St} {H : Hp} {Q : β' → Hp → Prop} {Q1 : V → Hp → Prop} {W : Wd} {S : Store} {ρ : Rho}
    (s : SR K C W S H) (r : RE K W ρ σ) (h : Run K C (Ex σ) RB (DL.bnd (ev ρ) g S) W S H Q)
    (k : ∀ a S' W' H' v, Le W W' → SR K C W' S' H' → RE K W' ρ σ → RV K W' a v → Run K C (Ex σ) RB (g a S') W' S' H' Q → Q1 v H') : dT K C Ex ev σ H Q1 :=
  ⟨W, S, ρ, s, r, Run.bnd h fun a S' W' H' v t' s' ra q => k a S' W' H' v t'.le s' (r.mono t'.le) ra q⟩
theorem dB.one {α' β' : Type} {RB : Wd → α' → β' → Prop} {ev : Rho → M Bool} {g : Bool → M α'} {σ : L2.St} {H : Hp} {Q : β' → Hp → Prop} {Q1 : Bool → Hp → Prop} {W : Wd} {S : Store} {ρ : Rho}
    (s : SR K C W S H) (r : RE K W ρ σ) (h : Run K C (Ex σ) RB (DL.bnd (ev ρ) g S) W S H Q)
    (k : ∀ a S' W' H', Le W W' → SR K C W' S' H' → RE K W' ρ σ → Run K C (Ex σ) RB (g a S') W' S' H' Q → Q1 a H') : dB K C Ex ev σ H Q1 :=
  ⟨W, S, ρ, s, r, Run.bnd h fun a S' W' H' v t' s' ra q => by cases ra; exact k a S' W' H' t'.le s' (r.mono t'.le) q⟩
theorem dA.one {α' β' : Type} {RB : Wd → α' → β' → Prop} {ev : Rho → M (List Vl)} {g : List Vl → M α'} {σ : L2.St} {H : Hp} {Q : β' → Hp → Prop} {Q1 : List V → Hp → Prop} {W : Wd} {S : Store} {ρ : Rho}
    (s : SR K C W S H) (r : RE K W ρ σ) (h : Run K C (Ex σ) RB (DL.bnd (ev ρ) g S) W S H Q)
    (k : ∀ a S' W' H' v, Le W W' → SR K C W' S' H' → RE K W' ρ σ → RVs K W' a v → Run K C (Ex σ) RB (g a S') W' S' H' Q → Q1 v H') : dA K C Ex ev σ H Q1 :=
  ⟨W, S, ρ, s, r, Run.bnd h fun a S' W' H' v t' s' ra q => k a S' W' H' v t'.le s' (r.mono t'.le) ra q⟩
end
/-- a new frozen object -/
theorem SR.laid {K : PySem.W.Frag} {C : Ctx} {W : Wd} {S : Store} {H : Hp} (s : SR K C W S H) {p : Addr} (o : HO) (hp : H p = none) :
    Tr W S H ⟨upd W.z p o, W.f, W.n⟩ S (upd H p o) ∧ SR K C ⟨upd W.z p o, W.f, W.n⟩ S (upd H p o) := by
  have hz : W.z p = none := s.sub.free hp
  have l : Le W ⟨upd W.z p o, W.f, W.n⟩ := ⟨fun b x e => by
    show upd W.z p o b = _
    rw [upd_ne (ne_of_none e hz)]; exact e, Nat.le_refl _, fun _ _ => rfl⟩
  refine ⟨⟨l, fun a x e _ => by rw [upd_ne (ne_of_none e hp)]; exact e, fun a e => ?_, fun a e => ?_, fun _ h _ => h, fun n h hl => absurd h.lt (by rw [← s.len]; exact Nat.not_lt.mpr hl)⟩, ⟨s.len, fun b x e => ?_, fun n x e hd => ?_, s.inj⟩⟩
  · by_cases h : a = p
    · subst h; exact hp
    · rw [upd_ne h] at e; exact e
  · by_cases h : a = p
    · subst h; exact .inr (.inl hp)
    · exact .inl (by rw [← upd_ne (H := W.z) (o := o) h]; exact e)
  · have e : upd W.z p o b = some x := e
    by_cases h : b = p
    · subst h; rw [upd_same] at e ⊢; exact e
    · rw [upd_ne h] at e ⊢; exact s.sub b x e
  · obtain ⟨h1, ho, h2, h3⟩ := s.at_ n x e hd
    have ne : W.f n ≠ p := ne_of_none h2 hp
    exact ⟨by show upd W.z p o (W.f n) = none; rw [upd_ne ne]; exact h1, ho, by show upd H p o (W.f n) = _; rw [upd_ne ne]; exact h2, h3.mono l⟩
end DL

namespace DL
open PySem PySem.Spec PyProof.Rows L2

/-! ### new objects -/
/-- a new mutable object -/
theorem SR.allocN {K : PySem.W.Frag} {C : Ctx} {W : Wd} {S : Store} {H : Hp} (s : SR K C W S H) {p : Addr} {o : Ob} {ho : HO} (hp : H p = none) (r : RO K C ⟨W.z, fun i => if i = W.n then p else W.f i, W.n + 1⟩ o ho) :
    Tr W S H ⟨W.z, fun i => if i = W.n then p else W.f i, W.n + 1⟩ (S ++ [o]) (upd H p ho) ∧ SR K C ⟨W.z, fun i => if i = W.n then p else W.f i, W.n + 1⟩ (S ++ [o]) (upd H p ho) := by
  have hz : W.z p = none := s.sub.free hp
  have l : Le W ⟨W.z, fun i => if i = W.n then p else W.f i, W.n + 1⟩ := ⟨Same.refl _, Nat.le_succ _, fun i h => if_neg (Nat.ne_of_lt h)⟩
  have old : ∀ n, n < W.n → ((S ++ [o])[n]? = S[n]?) := fun n h => List.getElem?_append_left (by rw [← s.len]; exact h)
  have liveOld : ∀ n, live (S ++ [o]) n → n < W.n → live S n := fun n ⟨x, e, d⟩ h => ⟨x, by rw [← old n h]; exact e, d⟩
  have top : ∀ n, live (S ++ [o]) n → ¬ n < W.n → n = W.n := fun n h hl => by
    have := h.lt
    rw [List.length_append, ← s.len] at this
    have h1 : n < W.n + 1 := this
    omega
  refine ⟨⟨l, fun a x e _ => by rw [upd_ne (ne_of_none e hp)]; exact e, fun a e => ?_, fun a e => .inl e, liveOld, fun n h hl => ?_⟩, ⟨by show W.n + 1 = _; rw [List.length_append, ← s.len]; rfl, fun b x e => ?_, fun n x e hd => ?_, fun n m hn hm e => ?_⟩⟩
  · by_cases h : a = p
    · subst h; exact hp
    · rw [upd_ne h] at e; exact e
  · rw [top n h (by omega)]
    show H (if W.n = W.n then p else _) = none
    rw [if_pos rfl]; exact hp
  · rw [upd_ne (ne_of_none (s.sub b x e) hp)]; exact s.sub b x e
  · show W.z (if n = W.n then p else W.f n) = none ∧ ∃ ho', upd H p ho (if n = W.n then p else W.f n) = some ho' ∧ _
    by_cases hn : n < W.n
    · rw [if_neg (Nat.ne_of_lt hn)]
      rw [old n hn] at e
      obtain ⟨h1, ho', h2, h3⟩ := s.at_ n x e hd
      exact ⟨h1, ho', by rw [upd_ne (ne_of_none h2 hp)]; exact h2, h3.mono l⟩
    · have en := top n ⟨x, e, hd⟩ hn
      subst en
      rw [if_pos rfl]
      have e2 : x = o := by
        rw [s.len, List.getElem?_append_right (Nat.le_refl _), Nat.sub_self] at e
        exact (Option.some.inj e).symm
      subst e2
      exact ⟨hz, ho, upd_same, r⟩
  · have e : (if n = W.n then p else W.f n) = (if m = W.n then p else W.f m) := e
    have wf : ∀ k, live S k → W.f k ≠ p := fun k ⟨y, ey, hy⟩ => by
      obtain ⟨_, ho', h2, _⟩ := s.at_ k y ey hy
      exact ne_of_none h2 hp
    by_cases h1 : n < W.n
    · by_cases h2 : m < W.n
      · rw [if_neg (Nat.ne_of_lt h1), if_neg (Nat.ne_of_lt h2)] at e
        exact s.inj n m (liveOld n hn h1) (liveOld m hm h2) e
      · rw [if_neg (Nat.ne_of_lt h1), if_pos (top m hm h2)] at e
        exact absurd e (wf n (liveOld n hn h1))
    · by_cases h2 : m < W.n
      · rw [if_pos (top n hn h1), if_neg (Nat.ne_of_lt h2)] at e
        exact absurd e.symm (wf m (liveOld m hm h2))
      · rw [top n hn h1, top m hm h2]
theorem SR.alloc {K : PySem.W.Frag} {C : Ctx} {W : Wd} {S : Store} {H : Hp} (s : SR K C W S H) {p : Addr} {o : Ob} {ho : HO} (hp : H p = none) (r : RO K C W o ho) :
    Tr W S H ⟨W.z, fun i => if i = W.n then p else W.f i, W.n + 1⟩ (S ++ [o]) (upd H p ho) ∧ SR K C ⟨W.z, fun i => if i = W.n then p else W.f i, W.n + 1⟩ (S ++ [o]) (upd H p ho) :=
  s.allocN hp (RO.mono (W := W) (W' := ⟨W.z, fun i => if i = W.n then p else W.f i, W.n + 1⟩) ⟨Same.refl _, Nat.le_succ _, fun i h => if_neg (Nat.ne_of_lt h)⟩ r)
def pds : List Vl → Option (List PyData)
  | [] => some []
  | .d x :: r => (pds r).map (x :: ·)
  | .loc _ :: _ => none
  | .scr _ :: _ => none
theorem pds_map (ds : List PyData) : pds (ds.map .d) = some ds := by
  induction ds with
  | nil => rfl
  | cons x r ih => show (pds (r.map .d)).map (x :: ·) = _; rw [ih]; rfl
theorem pds_eq : ∀ {xs : List Vl} {ds : List PyData}, pds xs = some ds → xs = ds.map .d
  | [], ds, h => by cases h; rfl
  | .d x :: r, ds, h => by
    unfold pds at h
    cases e : pds r with
    | none => rw [e] at h; cases h
    | some t => rw [e] at h; cases h; rw [pds_eq e]; rfl
  | .loc _ :: _, _, h => by cases h
  | .scr _ :: _, _, h => by cases h
theorem rvs_dp {K : PySem.W.Frag} {W : Wd} : ∀ {ds : List PyData} {vs : List V}, RVs K W (ds.map .d) vs → DzAll K W.z vs ds ∧ PyData.canLayAll0 ds = true
  | [], _, h => by cases h; exact ⟨.nil, rfl⟩
  | x :: r, _, h => by
    cases h with
    | cons h t =>
      have q := rvs_dp t
      exact ⟨.cons h.1 q.1, by simp only [PyData.canLayAll0, h.2, q.2, Bool.and_self]⟩
theorem dp_rvs {K : PySem.W.Frag} {W : Wd} : ∀ {ds : List PyData} {vs : List V}, DzAll K W.z vs ds → PyData.canLayAll0 ds = true → RVs K W (ds.map .d) vs
  | [], _, h, _ => by cases h; exact .nil
  | x :: r, _, h, c => by
    cases h with
    | cons h t =>
      have c' : x.canLay0 = true ∧ PyData.canLayAll0 r = true := by simpa [PyData.canLayAll0] using c
      exact .cons ⟨h, c'.1⟩ (dp_rvs t c'.2)
theorem rvs_len {K : PySem.W.Frag} {W : Wd} {ds : List Vl} {vs : List V} (h : RVs K W ds vs) : ds.length = vs.length := Paired.length h
/-- a new list -/
def newL (m : Bool) (xs : List Vl) : M Vl := fun S =>
  if xs.length ≤ sizeLine then (if m = true then .ok (.loc S.length) (S ++ [.lst xs]) else match pds xs with
    | some ds => .ok (.d (.list ds)) S
    | none => .bad) else .bad
def newT (xs : List Vl) : M Vl := fun S =>
  if xs.length ≤ sizeLine then (match pds xs with
    | some ds => .ok (.d (.tuple ds)) S
    | none => .bad) else .bad
section
variable {K : PySem.W.Frag} {C : Ctx} {Ex : XD} {W : Wd} {S : Store} {H : Hp} {xs : List Vl} {vs : List V} {Q : V → Hp → Prop}
theorem newL_run {m : Bool} (s : SR K C W S H) (r : RVs K W xs vs) (h : Run K C Ex (RV K) (newL m xs S) W S H Q) : vs.length ≤ sizeLine ∧ ∀ p, H p = none → Q (.ref p) (upd H p (.lst vs)) := by
  unfold newL at h
  by_cases hl : xs.length ≤ sizeLine
  · rw [if_pos hl] at h
    refine ⟨by rw [← rvs_len r]; exact hl, fun p hp => ?_⟩
    cases m with
    | true =>
      rw [if_pos rfl] at h
      obtain ⟨t, s'⟩ := s.alloc (o := .lst xs) (ho := .lst vs) hp ⟨vs, rfl, r⟩
      refine h _ _ _ t s' ⟨by show S.length < W.n + 1; rw [s.len]; exact Nat.lt_succ_self _, ?_⟩
      show _ = V.ref (if S.length = W.n then p else _)
      rw [if_pos s.len.symm]
    | false =>
      rw [if_neg Bool.false_ne_true] at h
      cases e : pds xs with
      | none => rw [e] at h; exact h.elim
      | some ds =>
        rw [e] at h
        obtain ⟨t, s'⟩ := s.laid (.lst vs) hp
        rw [pds_eq e] at r
        obtain ⟨r1, r2⟩ := rvs_dp (r.mono t.le)
        refine h _ _ _ t s' ⟨.lst (by show upd W.z p _ p = _; exact upd_same) r1, ?_⟩
        show PyData.canLay0 (.list ds) = true
        simp only [PyData.canLay0]; exact r2
  · rw [if_neg hl] at h; exact h.elim
theorem newT_run (s : SR K C W S H) (r : RVs K W xs vs) (h : Run K C Ex (RV K) (newT xs S) W S H Q) : vs.length ≤ sizeLine ∧ ∀ p, H p = none → Q (.ref p) (upd H p (.tup vs)) := by
  unfold newT at h
  by_cases hl : xs.length ≤ sizeLine
  · rw [if_pos hl] at h
    refine ⟨by rw [← rvs_len r]; exact hl, fun p hp => ?_⟩
    cases e : pds xs with
    | none => rw [e] at h; exact h.elim
    | some ds =>
      rw [e] at h
      obtain ⟨t, s'⟩ := s.laid (.tup vs) hp
      rw [pds_eq e] at r
      obtain ⟨r1, r2⟩ := rvs_dp (r.mono t.le)
      refine h _ _ _ t s' ⟨.tup (.inl (.inl (by show upd W.z p _ p = _; exact upd_same))) r1, ?_⟩
      show PyData.canLay0 (.tuple ds) = true
      simp only [PyData.canLay0]; exact r2
  · rw [if_neg hl] at h; exact h.elim
end
/-- what a list or a mutable list holds -/
def rdL (S : Store) : Vl → Option (List Vl)
  | .d (.list xs) => some (xs.map .d)
  | .scr ns => some ((ns.map PyData.int).map .d)
  | .loc n => match S[n]? with
    | some (.lst xs) => some xs
    | _ => none
  | _ => none
theorem rvs_of_ints {K : PySem.W.Frag} {W : Wd} : ∀ ns : List Int, RVs K W ((ns.map PyData.int).map .d) (ns.map V.int)
  | [] => .nil
  | n :: r => .cons ⟨.int n, rfl⟩ (rvs_of_ints r)
theorem rdL_at {K : PySem.W.Frag} {C : Ctx} {W : Wd} {S : Store} {H : Hp} {v : Vl} {x : V} {xs : List Vl} (s : SR K C W S H) (r : RV K W v x) (e : rdL S v = some xs) :
    ∃ p vs, x = .ref p ∧ SqL K H p vs ∧ RVs K W xs vs := by
  cases v with
  | d y =>
    cases y with
    | list ds =>
      cases e
      obtain ⟨h, c⟩ := r
      cases h with
      | lst hs ha => exact ⟨_, _, rfl, .inl (.inl (s.sub _ _ hs)), dp_rvs ha (by simpa [PyData.canLay0] using c)⟩
    | _ => cases e
  | loc n =>
    obtain ⟨_, rfl⟩ := r
    cases q : S[n]? with
    | none => simp only [rdL, q] at e; cases e
    | some o =>
      simp only [rdL, q] at e
      cases o with
      | lst ys =>
        cases e
        obtain ⟨_, ho, h2, vs, rfl, r⟩ := s.at_ n _ q (fun z => by cases z)
        exact ⟨_, vs, rfl, .inl (.inl h2), r⟩
      | _ => cases e
  | scr ns =>
    cases e
    obtain ⟨a, rfl, h⟩ := r
    exact ⟨a, _, rfl, s.sub.seq h, rvs_of_ints ns⟩
theorem tup_at {K : PySem.W.Frag} {C : Ctx} {W : Wd} {S : Store} {H : Hp} {x : V} {ds : List PyData} (s : SR K C W S H) (r : RV K W (.d (.tuple ds)) x) :
    ∃ p vs, x = .ref p ∧ SqT K H p vs ∧ RVs K W (ds.map .d) vs := by
  obtain ⟨h, c⟩ := r
  cases h with
  | tup hs ha => exact ⟨_, _, rfl, same_tup s.sub hs, dp_rvs ha (by simpa [PyData.canLay0] using c)⟩
end DL

namespace DL
open PySem PySem.Spec PyProof.Rows L2
/-! ### dicts whose keys are tuples -/
mutual
/-- the key that a datum is -/
def dataKey : PyData → Option NestedKey
  | .none => some .none
  | .int i => some (.num i)
  | .str x => some (.text x)
  | .tuple xs => (dataKeys xs).map .tup
  | _ => none
def dataKeys : List PyData → Option (List NestedKey)
  | [] => some []
  | x :: xs => (dataKey x).bind fun k => (dataKeys xs).map (k :: ·)
end
mutual
theorem dataKey_eq : ∀ {d : PyData} {k : NestedKey}, dataKey d = some k → keyD k = d
  | .none, _, h => by cases h; rfl
  | .int _, _, h => by cases h; rfl
  | .str _, _, h => by cases h; rfl
  | .tuple xs, k, h => by
    simp only [dataKey, Option.map_eq_some_iff] at h
    obtain ⟨ks, h, rfl⟩ := h
    simp only [keyD, dataKeys_eq h]
  | .bool _, _, h => by cases h
  | .list _, _, h => by cases h
  | .dict _, _, h => by cases h
theorem dataKeys_eq : ∀ {ds : List PyData} {ks : List NestedKey}, dataKeys ds = some ks → keyDs ks = ds
  | [], _, h => by cases h; rfl
  | d :: ds, ks, h => by
    simp only [dataKeys, Option.bind_eq_some_iff, Option.map_eq_some_iff] at h
    obtain ⟨k, h1, ks', h2, rfl⟩ := h
    simp only [keyDs, dataKey_eq h1, dataKeys_eq h2]
end
section
variable {X : Cx} {C : Ctx} {pins : List (Addr × Obj)} {σ : L2.St} {H : Hp} {s : Shared} {z : Hp}
mutual
theorem nested_at (I : Inv X pins σ H s) (sub : Same z H) : ∀ {k : NestedKey} {v : V} {u : Value}, Dz X.K z v (keyD k) → RelV v u → NestedIs s.heap k u
  | .none, _, _, h, r => by cases h; cases (show _ = Value.none from r); exact .none
  | .num i, _, _, h, r => by cases h; obtain ⟨t, rfl⟩ := (show ∃ t, _ = Value.int i t from r); exact .int i t
  | .text x, _, _, h, r => by cases h; obtain ⟨t, rfl⟩ := (show ∃ t, _ = Value.str x t from r); exact .text x t
  | .tup ks, _, _, h, r => by
    rw [keyD] at h
    cases h with
    | tup hs ha =>
      obtain ⟨its, rv, ⟨o, ho, hc, n, hd⟩, _⟩ := I.tuple (same_tup sub hs)
      cases (show _ = Value.ref _ from r)
      refine .tup ho hc hd ?_
      rw [List.toList_toArray]
      exact nested_all I sub ha rv
theorem nested_all (I : Inv X pins σ H s) (sub : Same z H) : ∀ {ks : List NestedKey} {vs : List V} {us : List Value}, DzAll X.K z vs (keyDs ks) → Vals vs us → NestedAll s.heap ks us
  | [], _, _, h, r => by cases h; cases r; exact .nil
  | k :: ks, _, _, h, r => by
    rw [keyDs] at h
    cases h with
    | cons h1 h2 =>
      cases r with
      | cons r1 r2 => exact .cons (nested_at I sub h1 r1) (nested_all I sub h2 r2)
end
abbrev RawE := NestedKey × Addr × V
def withVs (xs : List RawE) (vs : List Value) : List (NestedKey × Addr × Value) := (xs.zip vs).map fun p => (p.1.1, p.1.2.1, p.2)
theorem withVs_cons {x : RawE} {xs : List RawE} {v : Value} {vs : List Value} : withVs (x :: xs) (v :: vs) = (x.1, x.2.1, v) :: withVs xs vs := rfl
theorem withVs_keys : ∀ {xs : List RawE} {vs : List Value}, xs.length = vs.length → (withVs xs vs).map (·.1) = xs.map (·.1)
  | [], _, _ => rfl
  | _ :: _, [], h => by simp at h
  | x :: xs, v :: vs, h => by
    rw [withVs_cons, List.map_cons, List.map_cons, withVs_keys (by simpa using h)]
theorem withVs_mem : ∀ {xs : List RawE} {vs : List Value} {y}, y ∈ withVs xs vs → ∃ x ∈ xs, y.1 = x.1 ∧ y.2.1 = x.2.1
  | [], _, _, h => by cases h
  | _ :: _, [], _, h => by cases h
  | x :: xs, v :: vs, y, h => by
    rw [withVs_cons] at h
    rcases List.mem_cons.mp h with rfl | h
    · exact ⟨x, List.mem_cons_self, rfl, rfl⟩
    · obtain ⟨x', h1, h2⟩ := withVs_mem h
      exact ⟨x', List.mem_cons_of_mem _ h1, h2⟩
theorem withVs_len {xs : List RawE} {vs : List Value} (h : xs.length = vs.length) : (withVs xs vs).length = xs.length := by
  unfold withVs
  rw [List.length_map, List.length_zip, ← h, Nat.min_self]
/-- the value at a key -/
def lookR (xs : List RawE) (k : NestedKey) : Option V := (xs.find? fun x => decide (x.1 = k)).map (·.2.2)
def putR (xs : List RawE) (k : NestedKey) (a : Addr) (v : V) : List RawE := if (lookR xs k).isSome = true then xs.map (fun x => if x.1 = k then (x.1, x.2.1, v) else x) else xs ++ [(k, a, v)]
theorem look_at : ∀ {xs : List RawE} {vs : List Value} {k : NestedKey}, Vals (xs.map (·.2.2)) vs →
    (lookR xs k = none ∧ atKey (withVs xs vs) k = none) ∨ ∃ v p, lookR xs k = some v ∧ atKey (withVs xs vs) k = some p ∧ RelV v p.2
  | [], _, k, .nil => .inl ⟨rfl, rfl⟩
  | x :: xs, _, k, .cons (b := u) (l₂ := us) r t => by
    rw [withVs_cons]
    have ih := look_at (k := k) t
    unfold lookR atKey at ih ⊢
    by_cases hk : x.1 = k
    · refine .inr ⟨x.2.2, (x.2.1, u), ?_, ?_, r⟩
      · rw [List.find?_cons_of_pos (by simpa using hk)]; rfl
      · rw [List.find?_cons_of_pos (by simpa using hk)]; rfl
    · rw [List.find?_cons_of_neg (by simpa using hk), List.find?_cons_of_neg (by simpa using hk)]
      exact ih
theorem put_at {xs : List RawE} {vs : List Value} {k : NestedKey} {a : Addr} {v : V} {u : Value} (rv : Vals (xs.map (·.2.2)) vs) (r : RelV v u) :
    ∃ us, storedH (withVs xs vs) k a u = withVs (putR xs k a v) us ∧ Vals ((putR xs k a v).map (·.2.2)) us := by
  have e : (atKey (withVs xs vs) k).isSome = (lookR xs k).isSome := by
    rcases look_at (k := k) rv with ⟨e1, e2⟩ | ⟨_, _, e1, e2, _⟩ <;> rw [e1, e2] <;> rfl
  unfold storedH putR
  rw [e]
  by_cases c : (lookR xs k).isSome = true
  · rw [if_pos c, if_pos c]
    clear c e
    induction xs generalizing vs with
    | nil => cases rv; exact ⟨[], rfl, .nil⟩
    | cons x xs ih =>
      cases rv with
      | cons r1 r2 =>
        obtain ⟨us, e, h⟩ := ih r2
        rw [withVs_cons, List.map_cons, List.map_cons, e]
        unfold putAt
        by_cases hk : x.1 = k
        · exact ⟨u :: us, by rw [if_pos hk, if_pos hk]; rfl, by rw [if_pos hk]; exact .cons r h⟩
        · exact ⟨_ :: us, by rw [if_neg hk, if_neg hk]; rfl, by rw [if_neg hk]; exact .cons r1 h⟩
  · rw [if_neg c, if_neg c]
    clear c e
    induction xs generalizing vs with
    | nil => cases rv; exact ⟨[u], rfl, .cons r .nil⟩
    | cons x xs ih =>
      cases rv with
      | cons r1 r2 =>
        obtain ⟨us, e, h⟩ := ih r2
        exact ⟨_ :: us, by rw [withVs_cons, List.cons_append, e]; rfl, .cons r1 h⟩
theorem rawD_ext {w : World} {a : Addr} {xs : List RawE} {P : Program} {H : Hp} {h : Heap} (x : ObjOk P w H h a (rawD w a xs)) : ∃ vs, Vals (xs.map (·.2.2)) vs ∧ (a == sysModules) = false ∧
    ∃ o es ep, h.get? a = some o ∧ o.ExactDict ∧ o.data = .dict es ep ∧ es.toList = (xs.zip vs).map (fun p => (⟨p.1.1.hash w, .ref p.1.2.1, p.2⟩ : DictEntry)) ∧ (xs.map (·.1)).Nodup := x.1
theorem rawD_at (I : Inv X pins σ H s) {a : Addr} {xs : List RawE} (ha : H a = some (rawD X.w a xs)) (hk : ∀ x ∈ xs, NestedIs s.heap x.1 (.ref x.2.1) ∧ x.1.depth ≤ 8) :
    ∃ vs, Vals (xs.map (·.2.2)) vs ∧ s.heap.DictOfH (nestedKind X.prog X.w) a (withVs xs vs) ∧ (a == sysModules) = false := by
  obtain ⟨vs, rv, hd, o, es, ep, h1, h2, h3, h4, h5⟩ := rawD_ext (I.hok a _ ha)
  have e := rv.length
  rw [List.length_map] at e
  refine ⟨vs, rv, ⟨o, es, ep, h1, h2, h3, by rw [h4]; unfold withVs; rw [List.map_map]; rfl, fun y hy => ?_, by rw [withVs_keys e]; exact h5⟩, hd⟩
  obtain ⟨x, hx, e1, e2⟩ := withVs_mem hy
  rw [e1, e2]
  exact hk x hx
theorem rawD_ok {P : Program} {w : World} {H : Hp} {h : Heap} {a : Addr} {xs : List RawE} {vs : List Value} (rv : Vals (xs.map (·.2.2)) vs) (hd : (a == sysModules) = false) (D : h.DictOfH (nestedKind P w) a (withVs xs vs)) : ObjOk P w H h a (rawD w a xs) := by
  obtain ⟨o, es, ep, h1, h2, h3, h4, _, h5⟩ := D
  have e := rv.length
  rw [List.length_map] at e
  refine ⟨⟨vs, rv, hd, o, es, ep, h1, h2, h3, by rw [h4]; unfold withVs; rw [List.map_map]; rfl, by rw [← withVs_keys e]; exact h5⟩, ⟨o, h1⟩, fun g1 g2 p k => ?_⟩
  obtain ⟨vs, rv, hd, o, es, ep, h1, h2⟩ := p
  exact ⟨vs, rv, hd, o, es, ep, k _ h1, h2⟩
end
/-! as the evaluator sees them -/
def lookN (kvs : List (NestedKey × Vl)) (k : NestedKey) : Option Vl := (kvs.find? fun p => decide (p.1 = k)).map (·.2)
def putN (kvs : List (NestedKey × Vl)) (k : NestedKey) (v : Vl) : List (NestedKey × Vl) := if (lookN kvs k).isSome = true then kvs.map (fun p => if p.1 = k then (p.1, v) else p) else kvs ++ [(k, v)]
abbrev RelN (K : PySem.W.Frag) (W : Wd) : List (NestedKey × Vl) → List RawE → Prop := Paired fun (p : NestedKey × Vl) (q : RawE) => p.1 = q.1 ∧ Dz K W.z (.ref q.2.1) (keyD q.1) ∧ q.1.depth ≤ 8 ∧ RV K W p.2 q.2.2
section
variable {K : PySem.W.Frag} {W : Wd}
theorem lookN_at : ∀ {kvs : List (NestedKey × Vl)} {xs : List RawE} {k : NestedKey}, RelN K W kvs xs → (lookN kvs k = none ∧ lookR xs k = none) ∨ ∃ a v, lookN kvs k = some a ∧ lookR xs k = some v ∧ RV K W a v
  | _, _, k, .nil => .inl ⟨rfl, rfl⟩
  | (k1, a) :: r, (k2, b, v) :: r', k, .cons h t => by
    obtain ⟨e, _, _, rv⟩ := h
    have e : k1 = k2 := e
    subst e
    have ih := lookN_at (k := k) t
    unfold lookN lookR at ih ⊢
    by_cases hk : k1 = k
    · refine .inr ⟨a, v, ?_, ?_, rv⟩
      · rw [List.find?_cons_of_pos (by simpa using hk)]; rfl
      · rw [List.find?_cons_of_pos (by simpa using hk)]; rfl
    · rw [List.find?_cons_of_neg (by simpa using hk), List.find?_cons_of_neg (by simpa using hk)]
      exact ih
theorem putN_at {kvs : List (NestedKey × Vl)} {xs : List RawE} {k : NestedKey} {a : Addr} {d : Vl} {v : V} (h : RelN K W kvs xs) (hk : Dz K W.z (.ref a) (keyD k)) (h8 : k.depth ≤ 8) (rv : RV K W d v) : RelN K W (putN kvs k d) (putR xs k a v) := by
  have e : (lookN kvs k).isSome = (lookR xs k).isSome := by
    rcases lookN_at (k := k) h with ⟨e1, e2⟩ | ⟨_, _, e1, e2, _⟩ <;> rw [e1, e2] <;> rfl
  unfold putN putR
  rw [e]
  by_cases c : (lookR xs k).isSome = true
  · rw [if_pos c, if_pos c]
    clear c e
    induction h with
    | nil => exact .nil
    | @cons p q _ _ h t ih =>
      refine .cons ?_ ih
      by_cases hp : p.1 = k
      · dsimp only; rw [if_pos hp, if_pos (h.1 ▸ hp)]; exact ⟨h.1, h.2.1, h.2.2.1, rv⟩
      · dsimp only; rw [if_neg hp, if_neg (h.1 ▸ hp)]; exact h
  · rw [if_neg c, if_neg c]
    clear c e
    induction h with
    | nil => exact .cons ⟨rfl, hk, h8, rv⟩ .nil
    | cons h t ih => exact .cons h ih
theorem relN_keys {X : Cx} {pins : List (Addr × Obj)} {σ : L2.St} {H : Hp} {s : Shared} (I : Inv X pins σ H s) (sub : Same W.z H) : ∀ {kvs : List (NestedKey × Vl)} {xs : List RawE}, RelN X.K W kvs xs → ∀ x ∈ xs, NestedIs s.heap x.1 (.ref x.2.1) ∧ x.1.depth ≤ 8
  | _, _, .nil, x, h => by cases h
  | _, _, .cons h t, x, hx => by
    rcases List.mem_cons.mp hx with rfl | hx
    · exact ⟨nested_at I sub h.2.1 rfl, h.2.2.1⟩
    · exact relN_keys I sub t x hx
theorem relN_len {kvs : List (NestedKey × Vl)} {xs : List RawE} (h : RelN K W kvs xs) : kvs.length = xs.length := Paired.length h
/-- what stands at a dict with tuple keys -/
theorem dd_at {X : Cx} {C : Ctx} (hw : C.w = X.w) {pins : List (Addr × Obj)} {σ : L2.St} {S : Store} {H : Hp} {s : Shared} (I : Inv X pins σ H s) (sr : SR X.K C W S H) {n n' : Nat} {kvs : List (NestedKey × Vl)} (e : S[n]? = some (.dd n' kvs)) (en : n' = n) :
    ∃ xs vs, RelN X.K W kvs xs ∧ H (W.f n) = some (rawD X.w (W.f n) xs) ∧ Vals (xs.map (·.2.2)) vs ∧ s.heap.DictOfH (nestedKind X.prog X.w) (W.f n) (withVs xs vs) ∧ (W.f n == sysModules) = false ∧ (withVs xs vs).length = kvs.length := by
  subst en
  obtain ⟨_, ho, h2, xs, hn, rfl, r⟩ := sr.at_ _ _ e (fun z => by cases z)
  rw [hw] at h2
  obtain ⟨vs, rv, D, hd⟩ := rawD_at I h2 (relN_keys I sr.sub r)
  have el := rv.length
  rw [List.length_map] at el
  exact ⟨xs, vs, r, h2, rv, D, hd, by rw [withVs_len el, relN_len r]⟩
/-- the key that is asked -/
theorem key_at {X : Cx} {C : Ctx} {pins : List (Addr × Obj)} {σ : L2.St} {S : Store} {H : Hp} {s : Shared} (I : Inv X pins σ H s) (sr : SR X.K C W S H) {d : PyData} {k : NestedKey} {v : V} {u : Value} (r : RV X.K W (.d d) v) (ru : RelV v u) (ek : dataKey d = some k) (ht : ∃ ks, k = .tup ks) (h8 : k.depth ≤ 8) :
    ∃ a, v = .ref a ∧ u = .ref a ∧ (nestedKind X.prog X.w).is s.heap k a ∧ Dz X.K W.z (.ref a) (keyD k) := by
  obtain ⟨h, _⟩ := r
  rw [← dataKey_eq ek] at h
  obtain ⟨ks, rfl⟩ := ht
  have h' := h
  rw [keyD] at h'
  cases h' with
  | tup hs ha =>
    cases (show u = Value.ref _ from ru)
    exact ⟨_, rfl, rfl, ⟨nested_at I sr.sub h rfl, h8⟩, h⟩
end
end DL

namespace DL
open PySem PySem.Spec PyProof.Rows L2

/-! ### what an operation by values asks -/
section
variable (K : PySem.W.Frag) (C : Ctx) (Ex : XD)
def r1 (g : Vl → M Vl) : V → Hp → VK → Prop := fun x H Q => ∃ W S a, SR K C W S H ∧ RV K W a x ∧ Run K C Ex (RV K) (g a S) W S H Q
def r2 (g : Vl → Vl → M Vl) : R2 := fun x y H Q => ∃ W S a b, SR K C W S H ∧ RV K W a x ∧ RV K W b y ∧ Run K C Ex (RV K) (g a b S) W S H Q
def rN (g : List Vl → M Vl) : List V → Hp → VK → Prop := fun xs H Q => ∃ W S as, SR K C W S H ∧ RVs K W as xs ∧ Run K C Ex (RV K) (g as S) W S H Q
def rM (g : Vl → List Vl → M Vl) : V → List V → Hp → VK → Prop := fun x xs H Q => ∃ W S a as, SR K C W S H ∧ RV K W a x ∧ RVs K W as xs ∧ Run K C Ex (RV K) (g a as S) W S H Q
end
section
variable {X : Cx} {C : Ctx} {Ex : XD}
theorem OpR.weak {f : Value → Value → Sem Value} {r r' : R2} (h : OpR X f r) (k : ∀ x y H Q, r' x y H Q → r x y H Q) : OpR X f r' := fun pins s σ H x y v u Q I rx ry q => h pins s σ H x y v u Q I rx ry (k _ _ _ _ q)
theorem CallR.weak {f : Value} {r r' : List V → Hp → VK → Prop} (h : CallR X f r) (k : ∀ x H Q, r' x H Q → r x H Q) : CallR X f r' := fun pins s σ H x v Q I rx q => h pins s σ H x v Q I rx (k _ _ _ q)
theorem MtR.weak {f : String} {r r' : V → List V → Hp → VK → Prop} (h : MtR X f r) (k : ∀ x xs H Q, r' x xs H Q → r x xs H Q) : MtR X f r' := fun pins s σ H x xs v us Q I rx rxs q => h pins s σ H x xs v us Q I rx rxs (k _ _ _ _ q)
theorem IxR.weak {r r' : R2} (h : IxR X r) (k : ∀ x y H Q, r' x y H Q → r x y H Q) : IxR X r' := fun value slice pins s σ H x y v u Q I rx ry q hs => h value slice pins s σ H x y v u Q I rx ry (k _ _ _ _ q) hs
theorem SlR.weak {r r' : V → Option Int → Option Int → Hp → VK → Prop} (h : SlR X r) (k : ∀ x l u H Q, r' x l u H Q → r x l u H Q) : SlR X r' := fun pins s σ H x v vl vu lo hi sl Q I rx hs pl pu q => h pins s σ H x v vl vu lo hi sl Q I rx hs pl pu (k _ _ _ _ _ q)
end
section
variable {K : PySem.W.Frag} {C : Ctx} {Ex : XD} {W : Wd} {S : Store} {H : Hp} {Q : V → Hp → Prop}
theorem rv_int {i : Int} {x : V} (r : RV K W (.d (.int i)) x) : x = .int i := by obtain ⟨h, _⟩ := r; cases h; rfl
theorem rv_str {z : Str} {x : V} (r : RV K W (.d (.str z)) x) : x = .str z := by obtain ⟨h, _⟩ := r; cases h; rfl
theorem rv_bl {z : Bool} {x : V} (r : RV K W (.d (.bool z)) x) : x = .bl z := by obtain ⟨h, _⟩ := r; cases h; rfl
theorem rv_non {x : V} (r : RV K W (.d .none) x) : x = .non := by obtain ⟨h, _⟩ := r; cases h; rfl
theorem int_rv (i : Int) : RV K W (.d (.int i)) (.int i) := ⟨.int i, rfl⟩
theorem bl_rv (i : Bool) : RV K W (.d (.bool i)) (.bl i) := ⟨.bl i, rfl⟩
theorem non_rv : RV K W (.d .none) .non := ⟨.non, rfl⟩
theorem str_rv {z : Str} (h : PyData.strOk z = true) : RV K W (.d (.str z)) (.str z) := ⟨.str z, by simpa [PyData.canLay0] using h⟩
theorem rv_strOk {z : Str} {x : V} (r : RV K W (.d (.str z)) x) : PyData.strOk z = true := by simpa [PyData.canLay0] using r.2
end
theorem strOk_iff {z : Str} : PyData.strOk z = true ↔ ∀ c ∈ z.cps.toList, c < 0x110000 := by
  unfold PyData.strOk
  rw [Array.all_eq_true_iff_forall_mem]
  constructor
  · intro h c hc; exact of_decide_eq_true (h c (by simpa using hc))
  · intro h c hc; exact decide_eq_true (h c (by simpa using hc))
theorem strOk_app {z y : Str} (hz : PyData.strOk z = true) (hy : PyData.strOk y = true) : PyData.strOk (z ++ y) = true := by
  rw [strOk_iff] at *
  intro c hc
  have : (z ++ y).cps.toList = z.cps.toList ++ y.cps.toList := by
    show (z.cps ++ y.cps).toList = _
    exact Array.toList_append
  rw [this, List.mem_append] at hc
  exact hc.elim (hz c) (hy c)

/-! ### whole numbers, texts, tuples, lists: the binary operators -/
inductive Bop | add (m : Bool) | sub | mul | fdiv | mod | pow
def binD : Bop → PyData → PyData → Option PyData
  | .add _, .int i, .int j => some (.int (i + j))
  | .add _, .str s, .str t => if s.length + t.length ≤ sizeLine then some (.str (s ++ t)) else none
  | .add _, .tuple xs, .tuple ys => if xs.length + ys.length ≤ sizeLine then some (.tuple (xs ++ ys)) else none
  | .sub, .int i, .int j => some (.int (i - j))
  | .mul, .int i, .int j => if (-(2 ^ 64) < i ∧ i < 2 ^ 64) ∨ (-(2 ^ 64) < j ∧ j < 2 ^ 64) then some (.int (i * j)) else none
  | .mul, .str z, .int j => if j = 0 then some (.str Str.empty) else if j = 1 then some (.str z) else none
  | .fdiv, .int i, .int j => if 0 < j ∧ j < 1073741824 then some (.int (i / j)) else none
  | .mod, .int i, .int j => if 0 < j then some (.int (i % j)) else none
  | .pow, .int i, .int j => if 0 ≤ j ∧ j ≤ 1000000 ∧ i.natAbs < 2 ^ 64 then some (.int (i ^ j.toNat)) else none
  | _, _, _ => none
def binV (o : Bop) (a b : Vl) : M Vl := fun S =>
  match o with
  | .add m => (match rdL S a, rdL S b with
    | some xs, some ys => newL m (xs ++ ys) S
    | _, _ => match a, b with
      | .d x, .d y => ofO ((binD (.add m) x y).map .d) S
      | _, _ => .bad)
  | o => match a, b with
    | .d x, .d y => ofO ((binD o x y).map .d) S
    | _, _ => .bad
def Bop.op : Bop → Operator
  | .add _ => .Add | .sub => .Sub | .mul => .Mult | .fdiv => .FloorDiv | .mod => .Mod | .pow => .Pow
def rCatS (K : PySem.W.Frag) : R2 := fun x y H Q => ∃ l b xs zs, x = .ref l ∧ y = .ref b ∧ SqL K H l xs ∧ SqL K H b zs ∧ xs.length + zs.length ≤ sizeLine ∧ ∀ p, H p = none → Q (.ref p) (upd H p (.lst (xs ++ zs)))
section
variable {X : Cx} {C : Ctx} {Ex : XD}
theorem Run.pure {α β : Type} {K : PySem.W.Frag} {C : Ctx} {Ex : XD} {RA : Wd → α → β → Prop} {W : Wd} {S : Store} {H : Hp} {Q : β → Hp → Prop} {a : α} {v : β} (s : SR K C W S H) (h : Run K C Ex RA (pur a S) W S H Q) (ra : RA W a v) : Q v H := Run.now s h ra
theorem run_ofO {K : PySem.W.Frag} {C : Ctx} {W : Wd} {S : Store} {H : Hp} {Q : V → Hp → Prop} {o : Option PyData} (h : Run K C Ex (RV K) (ofO (o.map Vl.d) S) W S H Q) : ∃ d, o = some d ∧ Run K C Ex (RV K) (pur (.d d) S) W S H Q := by
  cases o with
  | none => exact h.elim
  | some d => exact ⟨d, rfl, h⟩
end
end DL

namespace DL
open PySem PySem.Spec PyProof.Rows L2
section
variable {X : Cx} {C : Ctx} {Ex : XD}
theorem op_catS : OpR X (binaryOp .Add) (rCatS X.K) := by
  intro pins s σ H x y v u Q I rx ry h
  obtain ⟨l, b, xs, zs, rfl, rfl, hH, hB, hz, q⟩ := h
  cases rx
  cases ry
  obtain ⟨its, r, ⟨⟨cls, dd, data, sls⟩, n, ho, hc, hdn, hdt⟩, hl⟩ := I.list hH
  obtain ⟨its2, r2, ⟨⟨cls2, dd2, data2, sls2⟩, n2, ho2, hc2, hdn2, hdt2⟩, hl2⟩ := I.list hB
  simp only at hc hdn hdt hc2 hdn2 hdt2
  subst hc hdn hdt hc2 hdn2 hdt2
  have e1 := r.length
  have e2 := r2.length
  refine concat_meets ⟨_, ho, rfl⟩ ⟨_, ho2, rfl⟩ noFill_list_add seq_list_add PySem.F.slot_list_add PySem.F.entry_list_add (PySem.F.args_list_add_2 _ _) (list_addW l b its.toArray its2.toArray n n2 .none .none sls sls2 (by rw [List.size_toArray, List.size_toArray]; omega)) ⟨ho, ho2, ?_⟩
  have ea : its.toArray ++ its2.toArray = (its ++ its2).toArray := by simp
  rw [ea]
  exact ⟨.ref _, _, I.lnew (t' := s.toks) (r.append r2) (by rw [List.length_append]; omega), rfl, q _ I.fresh⟩

theorem Run.int {K : PySem.W.Frag} {W : Wd} {S : Store} {H : Hp} {Q : V → Hp → Prop} {i : Int} (s : SR K C W S H) (h : Run K C Ex (RV K) (pur (.d (.int i)) S) W S H Q) : Q (.int i) H := Run.pure s h (int_rv i)
theorem Run.bl {K : PySem.W.Frag} {W : Wd} {S : Store} {H : Hp} {Q : V → Hp → Prop} {i : Bool} (s : SR K C W S H) (h : Run K C Ex (RV K) (pur (.d (.bool i)) S) W S H Q) : Q (.bl i) H := Run.pure s h (bl_rv i)
/-- a tuple that comes: one there, or a new one -/
theorem Run.tup {K : PySem.W.Frag} {W : Wd} {S : Store} {H : Hp} {Q : V → Hp → Prop} {ds : List PyData} {vs : List V} (s : SR K C W S H) (r : RVs K W (ds.map .d) vs) (h : Run K C Ex (RV K) (pur (.d (.tuple ds)) S) W S H Q) :
    (∀ p, SqT K W.z p vs → Q (.ref p) H) ∧ ∀ p, H p = none → Q (.ref p) (upd H p (.tup vs)) := by
  obtain ⟨r1, r2⟩ := rvs_dp r
  have c : PyData.canLay0 (.tuple ds) = true := by simp only [PyData.canLay0]; exact r2
  refine ⟨fun p hp => Run.pure s h ⟨.tup hp r1, c⟩, fun p hp => ?_⟩
  obtain ⟨t, s'⟩ := s.laid (.tup vs) hp
  exact h _ _ _ t s' ⟨.tup (.inl (.inl (by show upd W.z p _ p = _; exact upd_same))) (rvs_dp (r.mono t.le)).1, c⟩
/-- a frozen list that comes anew -/
theorem rv_tup {K : PySem.W.Frag} {W : Wd} {x : V} {ds : List PyData} (r : RV K W (.d (.tuple ds)) x) : ∃ p vs, x = .ref p ∧ SqT K W.z p vs ∧ RVs K W (ds.map .d) vs := by
  obtain ⟨h, c⟩ := r
  cases h with
  | tup hs ha => exact ⟨_, _, rfl, hs, dp_rvs ha (by simpa [PyData.canLay0] using c)⟩
theorem len_map {K : PySem.W.Frag} {W : Wd} {ds : List PyData} {vs : List V} (r : RVs K W (ds.map .d) vs) : ds.length = vs.length := by
  have := rvs_len r
  rw [List.length_map] at this
  exact this
theorem RVs.append {K : PySem.W.Frag} {W : Wd} : ∀ {xs ys : List Vl} {vs ws : List V}, RVs K W xs vs → RVs K W ys ws → RVs K W (xs ++ ys) (vs ++ ws)
  | _, _, _, _, .nil, r => r
  | _, _, _, _, .cons h t, r => .cons h (RVs.append t r)
theorem run_if {α β : Type} {K : PySem.W.Frag} {RA : Wd → α → β → Prop} {W : Wd} {S : Store} {H : Hp} {Q : β → Hp → Prop} {c : Prop} [Decidable c] {o : PyData} {S1 : Store} {Q1 : V → Hp → Prop} (h : Run K C Ex (RV K) (ofO ((if c then some o else none).map Vl.d) S) W S H Q1) :
    c ∧ Run K C Ex (RV K) (pur (.d o) S) W S H Q1 := by
  by_cases hc : c
  · rw [if_pos hc] at h; exact ⟨hc, h⟩
  · rw [if_neg hc] at h; exact h.elim
theorem op_mulZ {pins : List (Addr × Obj)} {σ : L2.St} {s : Shared} {H : Hp} {W : Wd} {S : Store} {z : Str} {n : Int} {v u : Value} {Q : VK} (I : Inv X pins σ H s) (rx : RelV (.str z) v) (ry : RelV (.int n) u) (sr : SR X.K C W S H) (rp : RV X.K W (.d (.str z)) (.str z))
    (h : Run X.K C Ex (RV X.K) (ofO ((binD .mul (.str z) (.int n)).map .d) S) W S H Q) : wpAny (model X.prog X.w) X.A (binaryOp .Mult v u) (EP X pins σ Q) X.xe s := by
  obtain ⟨t, rfl⟩ := rx
  obtain ⟨t', rfl⟩ := ry
  by_cases h0 : n = 0
  · subst h0
    have e : Txt.mul z 0 = Str.empty := rfl
    have q : Q (.str Str.empty) H := Run.pure (v := V.str Str.empty) (a := Vl.d (.str Str.empty)) sr h (str_rv (by decide +kernel))
    exact SB.mul ⟨by decide, fun z => absurd (by decide) z, fun z => absurd (by decide) z⟩ fun t2 k => ⟨.str _, H, I.tok _, ⟨_, rfl⟩, by rw [e]; exact q⟩
  · by_cases h1 : n = 1
    · subst h1
      have e : Txt.mul z 1 = z := rfl
      have q : Q (.str z) H := Run.pure (v := V.str z) (a := Vl.d (.str z)) sr h rp
      exact SB.mul ⟨by decide, fun _ z => (by simp at z), fun _ z => (by simp at z)⟩ fun t2 k => ⟨.str _, H, I.tok _, ⟨_, rfl⟩, by rw [e]; exact q⟩
    · exfalso
      have : binD .mul (.str z) (.int n) = none := by
        show (if n = 0 then some (PyData.str Str.empty) else if n = 1 then some (.str z) else none) = none
        rw [if_neg h0, if_neg h1]
      rw [this] at h
      exact h
theorem opBin (o : Bop) : OpR X (binaryOp o.op) (r2 X.K C Ex (binV o)) := by
  intro pins s σ H x y v u Q I rx ry h
  obtain ⟨W, S, a, b, sr, ra, rb, h⟩ := h
  have dd : ∀ {p q : PyData}, RV X.K W (.d p) x → RV X.K W (.d q) y → Run X.K C Ex (RV X.K) (ofO ((binD o p q).map .d) S) W S H Q → wpAny (model X.prog X.w) X.A (binaryOp o.op v u) (EP X pins σ Q) X.xe s := by
    intro p q rp rq h
    cases o with
    | add m =>
      cases p <;> cases q <;> first
        | exact h.elim
        | (have ex := rv_int rp; have ey := rv_int rq; subst ex; subst ey
           exact op_add pins s σ H _ _ v u Q I rx ry ⟨_, _, rfl, rfl, Run.int sr h⟩)
        | (have ex := rv_str rp; have ey := rv_str rq; subst ex; subst ey
           obtain ⟨hc, h⟩ := run_if (S1 := S) (β := V) (RA := RV X.K) (Q := Q) h
           exact op_add_str pins s σ H _ _ v u Q I rx ry ⟨_, _, rfl, rfl, hc, Run.pure sr h (str_rv (strOk_app (rv_strOk rp) (rv_strOk rq)))⟩)
        | (obtain ⟨a', vs, rfl, ta, tb⟩ := rv_tup rp
           obtain ⟨b', ws, rfl, tc, td⟩ := rv_tup rq
           obtain ⟨hc, h⟩ := run_if (S1 := S) (β := V) (RA := RV X.K) (Q := Q) h
           have l1 := len_map tb
           have l2 := len_map td
           have q := Run.tup (vs := vs ++ ws) sr (by rw [List.map_append]; exact RVs.append tb td) h
           exact op_catA pins s σ H _ _ v u Q I rx ry ⟨_, _, vs, ws, rfl, rfl, same_tup sr.sub ta, same_tup sr.sub tc, by omega, fun e => q.1 _ (by rw [e, List.nil_append]; exact tc), fun _ e => q.1 _ (by rw [e, List.append_nil]; exact ta), fun _ _ => q.2⟩)
    | sub =>
      cases p <;> cases q <;> first
        | exact h.elim
        | (have ex := rv_int rp; have ey := rv_int rq; subst ex; subst ey
           exact op_sub pins s σ H _ _ v u Q I rx ry ⟨_, _, rfl, rfl, Run.int sr h⟩)
    | mul =>
      cases p <;> cases q <;> first
        | exact h.elim
        | (have ex := rv_int rp; have ey := rv_int rq; subst ex; subst ey
           obtain ⟨hc, h⟩ := run_if (S1 := S) (β := V) (RA := RV X.K) (Q := Q) h
           exact op_mul pins s σ H _ _ v u Q I rx ry ⟨_, _, rfl, rfl, hc, Run.int sr h⟩)
        | (have ex := rv_str rp; have ey := rv_int rq; subst ex; subst ey
           exact op_mulZ I rx ry sr rp h)
    | fdiv =>
      cases p <;> cases q <;> first
        | exact h.elim
        | (have ex := rv_int rp; have ey := rv_int rq; subst ex; subst ey
           obtain ⟨hc, h⟩ := run_if (S1 := S) (β := V) (RA := RV X.K) (Q := Q) h
           exact op_fdiv pins s σ H _ _ v u Q I rx ry ⟨_, _, rfl, rfl, hc, Run.int sr h⟩)
    | mod =>
      cases p <;> cases q <;> first
        | exact h.elim
        | (have ex := rv_int rp; have ey := rv_int rq; subst ex; subst ey
           obtain ⟨hc, h⟩ := run_if (S1 := S) (β := V) (RA := RV X.K) (Q := Q) h
           exact op_mod pins s σ H _ _ v u Q I rx ry ⟨_, _, rfl, rfl, hc, Run.int sr h⟩)
    | pow =>
      cases p <;> cases q <;> first
        | exact h.elim
        | (have ex := rv_int rp; have ey := rv_int rq; subst ex; subst ey
           obtain ⟨hc, h⟩ := run_if (S1 := S) (β := V) (RA := RV X.K) (Q := Q) h
           exact op_pow pins s σ H _ _ v u Q I rx ry ⟨_, _, rfl, rfl, hc, Run.int sr h⟩)
  have gen : (∀ m, o ≠ .add m) → binV o a b S = (match a, b with
      | .d x, .d y => ofO ((binD o x y).map .d) S
      | _, _ => .bad) := fun hn => by
    cases o with
    | add m => exact absurd rfl (hn m)
    | _ => cases a <;> cases b <;> rfl
  by_cases hm : ∃ m, o = .add m
  · obtain ⟨m, rfl⟩ := hm
    cases e1 : rdL S a with
    | none =>
      simp only [binV, e1] at h
      cases a <;> cases b <;> first | exact h.elim | exact dd ra rb h
    | some xs =>
      cases e2 : rdL S b with
      | none =>
        simp only [binV, e1, e2] at h
        cases a <;> cases b <;> first | exact h.elim | exact dd ra rb h
      | some ys =>
        simp only [binV, e1, e2] at h
        obtain ⟨p, vs, rfl, sq, rv⟩ := rdL_at sr ra e1
        obtain ⟨p2, ws, rfl, sq2, rv2⟩ := rdL_at sr rb e2
        obtain ⟨hl, q⟩ := newL_run sr (RVs.append rv rv2) h
        exact op_catS pins s σ H _ _ v u Q I rx ry ⟨_, _, vs, ws, rfl, rfl, sq, sq2, by rw [List.length_append] at hl; exact hl, q⟩
  · rw [gen fun m e => hm ⟨m, e⟩] at h
    cases a <;> cases b <;> first | exact h.elim | exact dd ra rb h
end
end DL

namespace DL
open PySem PySem.Spec PyProof.Rows L2

/-! ### comparisons -/
inductive Cop | lt | le | gt | ge | eq | ne | isin | notin | is | isnot
def Cop.op : Cop → CmpOp
  | .lt => .Lt | .le => .LtE | .gt => .Gt | .ge => .GtE | .eq => .Eq | .ne => .NotEq | .isin => .In | .notin => .NotIn | .is => .Is | .isnot => .IsNot
/-- the data that a value is: itself, or what a mutable list holds -/
def asD (S : Store) : Vl → Option PyData
  | .d x => some x
  | .loc n => match S[n]? with
    | some (.lst xs) => (pds xs).map .list
    | _ => none
  | .scr _ => none
def strIn (i j : Str) : Bool := !(Builtin.Str.occurrences j i 0 j.length 1).isEmpty
def seqOf : PyData → Option (List PyData)
  | .list xs => some xs
  | .tuple xs => some xs
  | _ => none
/-- < may be asked of the two -/
def ordOk (a b : PyData) : Bool := PySem.W.alike a b && (match a with
  | .none => false
  | _ => true) && decide (min a.depth b.depth ≤ 60)
def near (a b : PyData) : Bool := decide (min a.depth b.depth ≤ 64)
def cmpD : Cop → PyData → PyData → Option Bool
  | .eq, a, b => if near a b then some (PyData.eqv a b) else none
  | .ne, a, b => if near a b then some (!PyData.eqv a b) else none
  | .lt, .int i, .int j => some (decide (i < j))
  | .le, .int i, .int j => some (decide (i ≤ j))
  | .gt, .int i, .int j => some (decide (j < i))
  | .ge, .int i, .int j => some (decide (j ≤ i))
  | .lt, a, b => if ordOk a b = true then some (PySem.W.dataLt a b) else none
  | .le, a, b => if ordOk a b = true then some (!PySem.W.dataLt b a) else none
  | .gt, a, b => if ordOk a b = true then some (PySem.W.dataLt b a) else none
  | .ge, a, b => if ordOk a b = true then some (!PySem.W.dataLt a b) else none
  | .isin, .str i, .str j => some (strIn i j)
  | .notin, .str i, .str j => some (!strIn i j)
  | .isin, a, b => match seqOf b with
    | some xs => if a.depth ≤ 64 then some (xs.any fun z => PyData.eqv z a) else none
    | none => none
  | .notin, a, b => match seqOf b with
    | some xs => if a.depth ≤ 64 then some (!xs.any fun z => PyData.eqv z a) else none
    | none => none
  | .is, a, .none => some (match a with | .none => true | _ => false)
  | .is, a, .bool c => some (match a with | .bool d => decide (d = c) | _ => false)
  | .isnot, a, .none => some (match a with | .none => false | _ => true)
  | .isnot, a, .bool c => some (!(match a with | .bool d => decide (d = c) | _ => false))
  | _, _, _ => none
def cmpO (o : Cop) (a b : Vl) : M Vl := fun S =>
  match asD S a, asD S b with
  | some x, some y => ofO ((cmpD o x y).map fun c => .d (.bool c)) S
  | _, _ => .bad
theorem asD_at {K : PySem.W.Frag} {C : Ctx} {W : Wd} {S : Store} {H : Hp} {v : Vl} {x : V} {d : PyData} (s : SR K C W S H) (r : RV K W v x) (e : asD S v = some d) : Dp K H x d ∧ d.canLay0 = true := by
  cases v with
  | d y => cases e; exact ⟨dz_dp (dz_mono s.sub r.1), r.2⟩
  | scr ns => cases e
  | loc n =>
    obtain ⟨_, rfl⟩ := r
    cases q : S[n]? with
    | none => simp only [asD, q] at e; cases e
    | some o =>
      simp only [asD, q] at e
      cases o with
      | lst ys =>
        obtain ⟨_, ho, h2, vs, rfl, r⟩ := s.at_ n _ q (fun z => by cases z)
        cases ep : pds ys with
        | none => simp only [ep] at e; cases e
        | some ds =>
          simp only [ep] at e
          cases e
          rw [pds_eq ep] at r
          obtain ⟨h3, h4⟩ := rvs_dp r
          exact ⟨.lst (.inl (.inl h2)) (dzAll_dp (dzAll_mono s.sub h3)), by simpa [PyData.canLay0] using h4⟩
      | _ => cases e
section
variable {X : Cx} {C : Ctx} {Ex : XD}
theorem near_room {A : Around} {a b : PyData} (h : near a b = true) (hu : A.units + 65 < cLine) : A.units + min a.depth b.depth < cLine := by
  have := of_decide_eq_true h
  omega
theorem op_eqM (hu : X.A.units + 65 < cLine) : OpR X (compareOp .Eq) (fun x y H Q => ∃ d e, Dp X.K H x d ∧ Dp X.K H y e ∧ d.canLay0 = true ∧ e.canLay0 = true ∧ near d e = true ∧ Q (.bl (PyData.eqv d e)) H) := by
  intro pins s σ H x y v u Q I rx ry h
  obtain ⟨d, e, hd, he, cd, ce, nr, q⟩ := h
  obtain ⟨as, r1⟩ := Dp.reads I d x v hd rx
  obtain ⟨bs, r2⟩ := Dp.reads I e y u he ry
  exact SeqAt.compareEq_reads r1 r2 cd ce (near_room nr hu) ⟨.bl _, H, I, rfl, q⟩
theorem op_neM (hu : X.A.units + 65 < cLine) : OpR X (compareOp .NotEq) (fun x y H Q => ∃ d e, Dp X.K H x d ∧ Dp X.K H y e ∧ d.canLay0 = true ∧ e.canLay0 = true ∧ near d e = true ∧ Q (.bl (!PyData.eqv d e)) H) := by
  intro pins s σ H x y v u Q I rx ry h
  obtain ⟨d, e, hd, he, cd, ce, nr, q⟩ := h
  obtain ⟨as, r1⟩ := Dp.reads I d x v hd rx
  obtain ⟨bs, r2⟩ := Dp.reads I e y u he ry
  exact SeqAt.compareNe_reads r1 r2 cd ce (near_room nr hu) ⟨.bl _, H, I, rfl, q⟩
theorem op_inM (hu : X.A.units + 66 < cLine) : OpR X (compareOp .In) (fun x y H Q => ∃ d e xs, Dp X.K H x d ∧ Dp X.K H y e ∧ d.canLay0 = true ∧ e.canLay0 = true ∧ seqOf e = some xs ∧ d.depth ≤ 64 ∧ Q (.bl (xs.any fun z => PyData.eqv z d)) H) := by
  intro pins s σ H x y v u Q I rx ry h
  obtain ⟨d, e, xs, hd, he, cd, ce, es, nr, q⟩ := h
  obtain ⟨as, r1⟩ := Dp.reads I d x v hd rx
  obtain ⟨bs, r2⟩ := Dp.reads I e y u he ry
  have hm : ∀ n : Nat, X.A.units + 1 + min n d.depth < cLine := fun n => by
    have := Nat.min_le_right n d.depth
    omega
  cases e with
  | list ys => cases es; exact SeqAt.in_list_reads r2 r1 (by simpa [PyData.canLay0] using ce) cd (hm _) ⟨.bl _, H, I, rfl, q⟩
  | tuple ys => cases es; exact SeqAt.in_tuple_reads r2 r1 (by simpa [PyData.canLay0] using ce) cd (hm _) ⟨.bl _, H, I, rfl, q⟩
  | _ => cases es
theorem op_notInM (hu : X.A.units + 66 < cLine) : OpR X (compareOp .NotIn) (fun x y H Q => ∃ d e xs, Dp X.K H x d ∧ Dp X.K H y e ∧ d.canLay0 = true ∧ e.canLay0 = true ∧ seqOf e = some xs ∧ d.depth ≤ 64 ∧ Q (.bl (!xs.any fun z => PyData.eqv z d)) H) := by
  intro pins s σ H x y v u Q I rx ry h
  obtain ⟨d, e, xs, hd, he, cd, ce, es, nr, q⟩ := h
  obtain ⟨as, r1⟩ := Dp.reads I d x v hd rx
  obtain ⟨bs, r2⟩ := Dp.reads I e y u he ry
  have hm : ∀ n : Nat, X.A.units + 1 + min n d.depth < cLine := fun n => by
    have := Nat.min_le_right n d.depth
    omega
  cases e with
  | list ys => cases es; exact SeqAt.notIn_list_reads r2 r1 (by simpa [PyData.canLay0] using ce) cd (hm _) ⟨.bl _, H, I, rfl, q⟩
  | tuple ys => cases es; exact SeqAt.notIn_tuple_reads r2 r1 (by simpa [PyData.canLay0] using ce) cd (hm _) ⟨.bl _, H, I, rfl, q⟩
  | _ => cases es
theorem run_ofB {K : PySem.W.Frag} {W : Wd} {S : Store} {H : Hp} {Q : V → Hp → Prop} {o : Option Bool} (s : SR K C W S H) (h : Run K C Ex (RV K) (ofO (o.map fun c => Vl.d (.bool c)) S) W S H Q) : ∃ c, o = some c ∧ Q (.bl c) H := by
  cases o with
  | none => exact h.elim
  | some c => exact ⟨c, rfl, Run.bl s h⟩
theorem dp_int {K : PySem.W.Frag} {H : Hp} {x : V} {i : Int} (h : Dp K H x (.int i)) : x = .int i := by cases h; rfl
theorem dp_str {K : PySem.W.Frag} {H : Hp} {x : V} {i : Str} (h : Dp K H x (.str i)) : x = .str i := by cases h; rfl
theorem dp_non {K : PySem.W.Frag} {H : Hp} {x : V} (h : Dp K H x .none) : x = .non := by cases h; rfl
theorem dp_isnon {K : PySem.W.Frag} {H : Hp} {x : V} {d : PyData} (h : Dp K H x d) : decide (x = .non) = (match d with | .none => true | _ => false) := by cases h <;> rfl
theorem dp_notnon {K : PySem.W.Frag} {H : Hp} {x : V} {d : PyData} (h : Dp K H x d) : (!decide (x = .non)) = (match d with | .none => false | _ => true) := by cases h <;> rfl
theorem op_isB : OpR X (compareOp .Is) (fun x y H Q => ∃ b, y = .bl b ∧ Q (.bl (decide (x = .bl b))) H) := by
  intro pins s σ H x y v u Q I rx ry h
  obtain ⟨b, rfl, q⟩ := h
  cases (show u = Value.bool b from ry)
  cases x with
  | bl a =>
    cases (show v = Value.bool a from rx)
    by_cases e : a = b
    · subst e
      exact wpAny_is_self rfl ⟨.bl true, H, I, rfl, by simpa using q⟩
    · exact wpAny_is_other rfl (fun z => e (Value.bool.inj z)) ⟨.bl false, H, I, rfl, by simpa [e] using q⟩
  | non => cases rx; exact wpAny_pure ⟨.bl false, H, I, rfl, by simpa using q⟩
  | int i => obtain ⟨t, rfl⟩ := rx; exact wpAny_pure ⟨.bl false, H, I, rfl, by simpa using q⟩
  | str i => obtain ⟨t, rfl⟩ := rx; exact wpAny_pure ⟨.bl false, H, I, rfl, by simpa using q⟩
  | byt i => obtain ⟨t, rfl⟩ := rx; exact wpAny_pure ⟨.bl false, H, I, rfl, by simpa using q⟩
  | flt i => obtain ⟨t, rfl⟩ := rx; exact wpAny_pure ⟨.bl false, H, I, rfl, by simpa using q⟩
  | ref a => cases rx; exact wpAny_pure ⟨.bl false, H, I, rfl, by simpa using q⟩
  | ty a => cases rx; exact wpAny_pure ⟨.bl false, H, I, rfl, by simpa using q⟩
theorem op_isnB : OpR X (compareOp .IsNot) (fun x y H Q => ∃ b, y = .bl b ∧ Q (.bl (!decide (x = .bl b))) H) := by
  intro pins s σ H x y v u Q I rx ry h
  obtain ⟨b, rfl, q⟩ := h
  cases (show u = Value.bool b from ry)
  cases x with
  | bl a =>
    cases (show v = Value.bool a from rx)
    by_cases e : a = b
    · subst e
      exact wpAny_isNot_self rfl ⟨.bl false, H, I, rfl, by simpa using q⟩
    · exact wpAny_isNot_other rfl (fun z => e (Value.bool.inj z)) ⟨.bl true, H, I, rfl, by simpa [e] using q⟩
  | non => cases rx; exact wpAny_pure ⟨.bl true, H, I, rfl, by simpa using q⟩
  | int i => obtain ⟨t, rfl⟩ := rx; exact wpAny_pure ⟨.bl true, H, I, rfl, by simpa using q⟩
  | str i => obtain ⟨t, rfl⟩ := rx; exact wpAny_pure ⟨.bl true, H, I, rfl, by simpa using q⟩
  | byt i => obtain ⟨t, rfl⟩ := rx; exact wpAny_pure ⟨.bl true, H, I, rfl, by simpa using q⟩
  | flt i => obtain ⟨t, rfl⟩ := rx; exact wpAny_pure ⟨.bl true, H, I, rfl, by simpa using q⟩
  | ref a => cases rx; exact wpAny_pure ⟨.bl true, H, I, rfl, by simpa using q⟩
  | ty a => cases rx; exact wpAny_pure ⟨.bl true, H, I, rfl, by simpa using q⟩
theorem dp_isbl {K : PySem.W.Frag} {H : Hp} {x : V} {d : PyData} {b : Bool} (h : Dp K H x d) : decide (x = .bl b) = (match d with | .bool c => decide (c = b) | _ => false) := by
  cases h <;> first | rfl | simp
theorem opCmpO (hu : X.A.units + 66 < cLine) (o : Cop) : OpR X (compareOp o.op) (r2 X.K C Ex (cmpO o)) := by
  intro pins s σ H x y v u Q I rx ry h
  obtain ⟨W, S, a, b, sr, ra, rb, h⟩ := h
  unfold cmpO at h
  cases e1 : asD S a with
  | none => rw [e1] at h; exact h.elim
  | some p =>
    cases e2 : asD S b with
    | none => rw [e1, e2] at h; exact h.elim
    | some q =>
      rw [e1, e2] at h
      obtain ⟨hp, cp⟩ := asD_at sr ra e1
      obtain ⟨hq, cq⟩ := asD_at sr rb e2
      obtain ⟨c, ec, qc⟩ := run_ofB sr h
      have rel : ∀ {o : Cop} {k : Int → Int → Bool}, (∀ i j, cmpD o (.int i) (.int j) = some (k i j)) → True := fun _ => trivial
      cases o with
      | eq =>
        have ec : (if near p q then some (PyData.eqv p q) else none) = some c := ec
        by_cases hn : near p q = true
        · rw [if_pos hn] at ec; cases ec
          exact op_eqM (by omega) pins s σ H x y v u Q I rx ry ⟨p, q, hp, hq, cp, cq, hn, qc⟩
        · rw [if_neg hn] at ec; cases ec
      | ne =>
        have ec : (if near p q then some (!PyData.eqv p q) else none) = some c := ec
        by_cases hn : near p q = true
        · rw [if_pos hn] at ec; cases ec
          exact op_neM (by omega) pins s σ H x y v u Q I rx ry ⟨p, q, hp, hq, cp, cq, hn, qc⟩
        · rw [if_neg hn] at ec; cases ec
      | lt =>
        by_cases hi : ∃ i j, p = .int i ∧ q = .int j
        · obtain ⟨i, j, rfl, rfl⟩ := hi
          cases ec
          exact op_lt pins s σ H x y v u Q I rx ry ⟨_, _, dp_int hp, dp_int hq, qc⟩
        · have ec : (if ordOk p q = true then some (PySem.W.dataLt p q) else none) = some c := by
            cases p <;> cases q <;> first | exact ec | exact absurd ⟨_, _, rfl, rfl⟩ hi
          by_cases ho : ordOk p q = true
          · rw [if_pos ho] at ec
            cases ec
            simp only [ordOk, Bool.and_eq_true, decide_eq_true_eq] at ho
            obtain ⟨as, r1⟩ := Dp.reads I p x v hp rx
            obtain ⟨bs, r2⟩ := Dp.reads I q y u hq ry
            exact PySem.W.lt_data r1 r2 ho.1.1 (fun z => by subst z; cases ho.1.2) (by omega) ⟨.bl _, H, I, rfl, qc⟩
          · rw [if_neg ho] at ec; cases ec
      | le =>
        by_cases hi : ∃ i j, p = .int i ∧ q = .int j
        · obtain ⟨i, j, rfl, rfl⟩ := hi
          cases ec
          exact op_le pins s σ H x y v u Q I rx ry ⟨_, _, dp_int hp, dp_int hq, qc⟩
        · have ec : (if ordOk p q = true then some (!PySem.W.dataLt q p) else none) = some c := by
            cases p <;> cases q <;> first | exact ec | exact absurd ⟨_, _, rfl, rfl⟩ hi
          by_cases ho : ordOk p q = true
          · rw [if_pos ho] at ec
            cases ec
            simp only [ordOk, Bool.and_eq_true, decide_eq_true_eq] at ho
            obtain ⟨as, r1⟩ := Dp.reads I p x v hp rx
            obtain ⟨bs, r2⟩ := Dp.reads I q y u hq ry
            exact PySem.W.le_data r1 r2 ho.1.1 (fun z => by subst z; cases ho.1.2) (by omega) ⟨.bl _, H, I, rfl, qc⟩
          · rw [if_neg ho] at ec; cases ec
      | gt =>
        by_cases hi : ∃ i j, p = .int i ∧ q = .int j
        · obtain ⟨i, j, rfl, rfl⟩ := hi
          cases ec
          exact op_gt pins s σ H x y v u Q I rx ry ⟨_, _, dp_int hp, dp_int hq, qc⟩
        · have ec : (if ordOk p q = true then some (PySem.W.dataLt q p) else none) = some c := by
            cases p <;> cases q <;> first | exact ec | exact absurd ⟨_, _, rfl, rfl⟩ hi
          by_cases ho : ordOk p q = true
          · rw [if_pos ho] at ec
            cases ec
            simp only [ordOk, Bool.and_eq_true, decide_eq_true_eq] at ho
            obtain ⟨as, r1⟩ := Dp.reads I p x v hp rx
            obtain ⟨bs, r2⟩ := Dp.reads I q y u hq ry
            exact PySem.W.gt_data r1 r2 ho.1.1 (fun z => by subst z; cases ho.1.2) (by omega) ⟨.bl _, H, I, rfl, qc⟩
          · rw [if_neg ho] at ec; cases ec
      | ge =>
        by_cases hi : ∃ i j, p = .int i ∧ q = .int j
        · obtain ⟨i, j, rfl, rfl⟩ := hi
          cases ec
          exact op_ge pins s σ H x y v u Q I rx ry ⟨_, _, dp_int hp, dp_int hq, qc⟩
        · have ec : (if ordOk p q = true then some (!PySem.W.dataLt p q) else none) = some c := by
            cases p <;> cases q <;> first | exact ec | exact absurd ⟨_, _, rfl, rfl⟩ hi
          by_cases ho : ordOk p q = true
          · rw [if_pos ho] at ec
            cases ec
            simp only [ordOk, Bool.and_eq_true, decide_eq_true_eq] at ho
            obtain ⟨as, r1⟩ := Dp.reads I p x v hp rx
            obtain ⟨bs, r2⟩ := Dp.reads I q y u hq ry
            exact PySem.W.ge_data r1 r2 ho.1.1 (fun z => by subst z; cases ho.1.2) (by omega) ⟨.bl _, H, I, rfl, qc⟩
          · rw [if_neg ho] at ec; cases ec
      | isin =>
        have sq : ∀ {xs}, seqOf q = some xs → (if p.depth ≤ 64 then some (xs.any fun z => PyData.eqv z p) else none) = some c → wpAny (model X.prog X.w) X.A (compareOp .In v u) (EP X pins σ Q) X.xe s := by
          intro xs es ec
          by_cases hn : p.depth ≤ 64
          · rw [if_pos hn] at ec; cases ec
            exact op_inM hu pins s σ H x y v u Q I rx ry ⟨p, q, xs, hp, hq, cp, cq, es, hn, qc⟩
          · rw [if_neg hn] at ec; cases ec
        cases q with
        | list xs => exact sq rfl (by cases p <;> exact ec)
        | tuple xs => exact sq rfl (by cases p <;> exact ec)
        | str j =>
          cases p <;> first | (cases ec; done) | skip
          cases ec
          exact op_in_str pins s σ H x y v u Q I rx ry ⟨_, _, dp_str hp, dp_str hq, qc⟩
        | _ => cases p <;> (cases ec; done)
      | notin =>
        have sq : ∀ {xs}, seqOf q = some xs → (if p.depth ≤ 64 then some (!xs.any fun z => PyData.eqv z p) else none) = some c → wpAny (model X.prog X.w) X.A (compareOp .NotIn v u) (EP X pins σ Q) X.xe s := by
          intro xs es ec
          by_cases hn : p.depth ≤ 64
          · rw [if_pos hn] at ec; cases ec
            exact op_notInM hu pins s σ H x y v u Q I rx ry ⟨p, q, xs, hp, hq, cp, cq, es, hn, qc⟩
          · rw [if_neg hn] at ec; cases ec
        cases q with
        | list xs => exact sq rfl (by cases p <;> exact ec)
        | tuple xs => exact sq rfl (by cases p <;> exact ec)
        | str j =>
          cases p <;> first | (cases ec; done) | skip
          cases ec
          exact op_notIn_str pins s σ H x y v u Q I rx ry ⟨_, _, dp_str hp, dp_str hq, by simpa [strIn] using qc⟩
        | _ => cases p <;> (cases ec; done)
      | is =>
        cases q <;> first | (cases p <;> cases ec; done) | skip
        rotate_left
        · rename_i b
          cases hq
          refine op_isB pins s σ H x _ v u Q I rx ry ⟨b, rfl, ?_⟩
          rw [dp_isbl hp]
          cases p <;> (cases ec; exact qc)
        refine op_isN pins s σ H x y v u Q I rx ry ⟨dp_non hq, ?_⟩
        rw [dp_isnon hp]
        cases p <;> (cases ec; exact qc)
      | isnot =>
        cases q <;> first | (cases p <;> cases ec; done) | skip
        rotate_left
        · rename_i b
          cases hq
          refine op_isnB pins s σ H x _ v u Q I rx ry ⟨b, rfl, ?_⟩
          rw [dp_isbl hp]
          cases p <;> (cases ec; exact qc)
        refine op_notN pins s σ H x y v u Q I rx ry ⟨dp_non hq, ?_⟩
        rw [dp_notnon hp]
        cases p <;> (cases ec; exact qc)
end
end DL

namespace DL
open PySem PySem.Spec PyProof.Rows L2

/-! ### a mutable object is changed -/
theorem SR.write {K : PySem.W.Frag} {C : Ctx} {W : Wd} {S : Store} {H : Hp} (s : SR K C W S H) {n : Nat} {o o' : Ob} {ho : HO} (e : S[n]? = some o) (hd : o ≠ .dead) (hd' : o' ≠ .dead) (r : RO K C W o' ho) :
    Tr W S H W (S.set n o') (upd H (W.f n) ho) ∧ SR K C W (S.set n o') (upd H (W.f n) ho) := by
  have hn : n < S.length := (List.getElem?_eq_some_iff.mp e).1
  obtain ⟨hz, h0, h1, h2⟩ := s.at_ n o e hd
  have lv : live S n := ⟨o, e, hd⟩
  have get : ∀ m, m ≠ n → (S.set n o')[m]? = S[m]? := fun m h => List.getElem?_set_ne (fun z => h z.symm)
  have back : ∀ m, live (S.set n o') m → live S m := fun m ⟨x, ex, hx⟩ => by
    by_cases h : m = n
    · subst h; exact lv
    · exact ⟨x, by rw [← get m h]; exact ex, hx⟩
  have wne : ∀ m, live S m → m ≠ n → W.f m ≠ W.f n := fun m hm h z => h (s.inj m n hm lv z)
  refine ⟨⟨Le.refl W, fun a x ea ha => ?_, fun a ea => ?_, fun a ea => .inl ea, fun m hm _ => back m hm, fun m hm hl => absurd (back m hm).lt (by rw [← s.len]; omega)⟩, ⟨by rw [List.length_set]; exact s.len, fun b x eb => ?_, fun m x ex hx => ?_, fun i j hi hj => s.inj i j (back i hi) (back j hj)⟩⟩
  · rw [upd_ne fun z => ha n lv z.symm]; exact ea
  · by_cases h : a = W.f n
    · subst h; rw [upd_same] at ea; cases ea
    · rw [upd_ne h] at ea; exact ea
  · rw [upd_ne (fun z => by subst z; rw [hz] at eb; cases eb)]; exact s.sub b x eb
  · by_cases h : m = n
    · subst h
      rw [List.getElem?_set_self hn] at ex
      cases ex
      exact ⟨hz, ho, upd_same, r⟩
    · rw [get m h] at ex
      obtain ⟨g1, g, g2, g3⟩ := s.at_ m x ex hx
      exact ⟨g1, g, by rw [upd_ne (wne m ⟨x, ex, hx⟩ h)]; exact g2, g3⟩
/-- a mutable object is frozen: the world knows it from now on -/
theorem SR.freeze {K : PySem.W.Frag} {C : Ctx} {W : Wd} {S : Store} {H : Hp} (s : SR K C W S H) {n : Nat} {o : Ob} {ho : HO} (e : S[n]? = some o) (hd : o ≠ .dead) (eh : H (W.f n) = some ho) :
    Tr W S H ⟨upd W.z (W.f n) ho, W.f, W.n⟩ (S.set n .dead) H ∧ SR K C ⟨upd W.z (W.f n) ho, W.f, W.n⟩ (S.set n .dead) H := by
  have hn : n < S.length := (List.getElem?_eq_some_iff.mp e).1
  obtain ⟨hz, h0, h1, h2⟩ := s.at_ n o e hd
  have lv : live S n := ⟨o, e, hd⟩
  have get : ∀ m, m ≠ n → (S.set n .dead)[m]? = S[m]? := fun m h => List.getElem?_set_ne (fun z => h z.symm)
  have back : ∀ m, live (S.set n .dead) m → live S m ∧ m ≠ n := fun m ⟨x, ex, hx⟩ => by
    by_cases h : m = n
    · subst h
      rw [List.getElem?_set_self hn] at ex
      cases ex
      exact absurd rfl hx
    · exact ⟨⟨x, by rw [← get m h]; exact ex, hx⟩, h⟩
  have l : Le W ⟨upd W.z (W.f n) ho, W.f, W.n⟩ := ⟨fun b x eb => by
    show upd W.z (W.f n) ho b = _
    rw [upd_ne (ne_of_none eb hz)]; exact eb, Nat.le_refl _, fun _ _ => rfl⟩
  refine ⟨⟨l, fun a x ea _ => ea, fun a ea => ea, fun a ea => ?_, fun m hm _ => (back m hm).1, fun m hm hl => absurd (back m hm).1.lt (by rw [← s.len]; exact Nat.not_lt.mpr hl)⟩, ⟨by rw [List.length_set]; exact s.len, fun b x eb => ?_, fun m x ex hx => ?_, fun i j hi hj => s.inj i j (back i hi).1 (back j hj).1⟩⟩
  · by_cases h : a = W.f n
    · subst h; exact .inr (.inr ⟨n, lv, rfl⟩)
    · exact .inl (by rw [← upd_ne (H := W.z) (o := ho) h]; exact ea)
  · have eb : upd W.z (W.f n) ho b = some x := eb
    by_cases h : b = W.f n
    · subst h; rw [upd_same] at eb; cases eb; exact eh
    · rw [upd_ne h] at eb; exact s.sub b x eb
  · obtain ⟨lm, hne⟩ := back m ⟨x, ex, hx⟩
    rw [get m hne] at ex
    obtain ⟨g1, g, g2, g3⟩ := s.at_ m x ex hx
    exact ⟨by show upd W.z (W.f n) ho (W.f m) = none; rw [upd_ne fun z => hne (s.inj m n lm lv z)]; exact g1, g, g2, g3.mono l⟩
def frzV (v : Vl) : M Vl := fun S => match v with
  | .loc n => match S[n]? with
    | some (.lst xs) => match pds xs with
      | some ds => .ok (.d (.list ds)) (S.set n .dead)
      | none => .bad
    | _ => .bad
  | v => .ok v S
section
variable {K : PySem.W.Frag} {C : Ctx} {Ex : XD} {W : Wd} {S : Store} {H : Hp} {Q : V → Hp → Prop}
theorem frz_run {v : Vl} {x : V} (s : SR K C W S H) (r : RV K W v x) (h : Run K C Ex (RV K) (frzV v S) W S H Q) : Q x H := by
  cases v with
  | d y => exact Run.now s h r
  | scr ns => exact Run.now s h r
  | loc n =>
    obtain ⟨hlt, rfl⟩ := r
    cases q : S[n]? with
    | none => simp only [frzV, q] at h; exact h.elim
    | some o =>
      cases o with
      | lst xs =>
        cases ep : pds xs with
        | none => simp only [frzV, q, ep] at h; exact h.elim
        | some ds =>
          simp only [frzV, q, ep] at h
          obtain ⟨_, ho, h2, vs, rfl, r⟩ := s.at_ n _ q (fun z => by cases z)
          obtain ⟨t, s'⟩ := s.freeze q (fun z => by cases z) h2
          rw [pds_eq ep] at r
          obtain ⟨r1, r2⟩ := rvs_dp (r.mono t.le)
          exact h _ _ _ t s' ⟨.lst (by show upd W.z _ _ _ = _; exact upd_same) r1, by simpa [PyData.canLay0] using r2⟩
      | _ => simp only [frzV, q] at h; exact h.elim
end

/-! ### subscripts -/
def keyOf : PyData → Option Key
  | .int i => some (.inl i)
  | .str z => some (.inr z)
  | _ => none
def lookV (kvs : List (Key × Vl)) (k : Key) : Option Vl := (kvs.find? fun p => decide (p.1 = k)).map (·.2)
def ixV (a i : Vl) : M Vl := fun S =>
  match a, i with
  | .loc n, .d x => (match S[n]? with
    | some (.lst xs) => (match x with
      | .int k => ofO (atI xs k) S
      | _ => .bad)
    | some (.dk kvs) => (match keyOf x with
      | some k => ofO (lookV kvs k) S
      | none => .bad)
    | some (.dd m kvs) => if m = n then (match dataKey x with
      | some (.tup ks) => if (NestedKey.tup ks).depth ≤ 8 then ofO (lookN kvs (.tup ks)) S else .bad
      | _ => .bad) else .bad
    | _ => .bad)
  | .d (.list ds), .d (.int k) => ofO ((atI ds k).map .d) S
  | .d (.tuple ds), .d (.int k) => ofO ((atI ds k).map .d) S
  | .d (.str z), .d (.int k) => if z.length ≤ sizeLine then ofO ((atI z.cps.toList k).map fun c => .d (.str ⟨#[c]⟩)) S else .bad
  | _, _ => .bad
theorem Paired.at {α β : Type} {R : α → β → Prop} : ∀ {xs : List α} {ys : List β} {i : Nat} {a : α}, Paired R xs ys → xs[i]? = some a → ∃ b, ys[i]? = some b ∧ R a b
  | _, _, _, _, .nil, e => by simp at e
  | _, _, 0, _, .cons h _, e => by simp at e; subst e; exact ⟨_, rfl, h⟩
  | _, _, i + 1, _, .cons _ t, e => by
    obtain ⟨b, h1, h2⟩ := Paired.at (i := i) t (by simpa using e)
    exact ⟨b, by simpa using h1, h2⟩
theorem atI_at {K : PySem.W.Frag} {W : Wd} {xs : List Vl} {vs : List V} {k : Int} {a : Vl} (r : RVs K W xs vs) (e : atI xs k = some a) : ∃ v, atI vs k = some v ∧ RV K W a v := by
  unfold atI at e ⊢
  rw [← rvs_len r]
  cases q : ixN xs.length k with
  | none => rw [q] at e; cases e
  | some j =>
    rw [q] at e
    exact Paired.at r e
theorem atI_map {α β : Type} (f : α → β) (xs : List α) (k : Int) : atI (xs.map f) k = (atI xs k).map f := by
  unfold atI
  rw [List.length_map]
  cases ixN xs.length k with
  | none => rfl
  | some j => show (xs.map f)[j]? = _; rw [List.getElem?_map]; rfl
theorem lookV_at {K : PySem.W.Frag} {W : Wd} : ∀ {kvs : List (Key × Vl)} {kvs' : List (Key × V)} {k : Key} , Paired (fun (p : Key × Vl) (q : Key × V) => p.1 = q.1 ∧ RV K W p.2 q.2) kvs kvs' →
    (lookV kvs k = none ∧ valV kvs' k = none) ∨ ∃ a v, lookV kvs k = some a ∧ valV kvs' k = some v ∧ RV K W a v
  | _, _, k, .nil => .inl ⟨rfl, rfl⟩
  | (k1, a) :: r, (k2, v) :: r', k, .cons h t => by
    obtain ⟨e, rv⟩ := h
    have e : k1 = k2 := e
    subst e
    have ih := lookV_at (k := k) t
    unfold lookV valV at ih ⊢
    by_cases hk : k1 = k
    · refine .inr ⟨a, v, ?_, ?_, rv⟩
      · rw [List.find?_cons_of_pos (by simpa using hk)]; rfl
      · rw [List.find?_cons_of_pos (by simpa using hk)]; rfl
    · rw [List.find?_cons_of_neg (by simpa using hk), List.find?_cons_of_neg (by simpa using hk)]
      exact ih
theorem key_v {K : PySem.W.Frag} {W : Wd} {x : PyData} {v : V} {k : Key} (r : RV K W (.d x) v) (e : keyOf x = some k) : v = kV k := by
  cases x <;> first | (cases e; done) | skip
  · cases e; exact rv_int r
  · cases e; exact rv_str r
section
variable {X : Cx} {C : Ctx} {Ex : XD}
theorem ix_dict (hu : X.A.units + 1 < cLine) : IxR X (fun x y H Q => ∃ a v, x = .ref a ∧ DGet H a y (some v) ∧ Q v H) := by
  intro value slice pins s σ H x y v u Q I rx ry h hs
  obtain ⟨a, v', rfl, g, q⟩ := h
  cases rx
  exact tail_any (dict_typeIs I g) PySem.F.slot_dict_getitem.lookup (d_getItem hu I g ry fun w' s3 I3 rw' => ⟨v', H, I3, rw', q⟩) hs
theorem strOk_one {z : Str} {c : Nat} (h : PyData.strOk z = true) (hc : c ∈ z.cps.toList) : PyData.strOk ⟨#[c]⟩ = true := by
  rw [strOk_iff] at *
  intro d hd
  have : d = c := by simpa using hd
  subst this
  exact h d hc
theorem atI_mem {α : Type} {xs : List α} {k : Int} {a : α} (e : atI xs k = some a) : a ∈ xs := by
  obtain ⟨j, _, h, _⟩ := atI_get e
  exact List.mem_of_getElem? h
theorem ix_dd (hw : C.w = X.w) (hu : X.A.units + 66 < cLine) {value slice : Expr} {pins : List (Addr × Obj)} {s : Shared} {σ : L2.St} {H : Hp} {Q : VK} {W : Wd} {S : Store} {n m : Nat} {kvs : List (NestedKey × Vl)} {i : PyData} {y : V} {v u : Value} (I : Inv X pins σ H s) (rx : RelV (.ref (W.f n)) v) (ry : RelV y u) (sr : SR X.K C W S H) (q : S[n]? = some (.dd m kvs)) (rb : RV X.K W (.d i) y)
    (h : Run X.K C Ex (RV X.K) (if m = n then (match dataKey i with
      | some (.tup ks) => if (NestedKey.tup ks).depth ≤ 8 then ofO (lookN kvs (.tup ks)) S else .bad
      | _ => .bad) else .bad) W S H Q) (hs : subscripted slice false v u = operate [v, u] (getItem v u)) : wpAny (model X.prog X.w) X.A (subscriptTail value slice v u) (EP X pins σ Q) X.xe s := by
  by_cases en : m = n
  · rw [if_pos en] at h
    cases ek : dataKey i with
    | none => simp only [ek] at h; exact h.elim
    | some k =>
      cases k with
      | tup ks =>
        simp only [ek] at h
        by_cases h8 : (NestedKey.tup ks).depth ≤ 8
        · rw [if_pos h8] at h
          obtain ⟨xs, vs, r, h2, rv, D, hd, hl⟩ := dd_at hw I sr q en
          obtain ⟨a, ey, eu, hk, hz⟩ := key_at I sr rb ry ek ⟨ks, rfl⟩ h8
          subst eu
          cases (show v = Value.ref _ from rx)
          rcases lookN_at (k := .tup ks) r with ⟨e1, _⟩ | ⟨b, w, e1, e2, rw'⟩
          · rw [e1] at h; exact h.elim
          · rw [e1] at h
            rcases look_at (k := .tup ks) rv with ⟨e3, _⟩ | ⟨w', p, e3, e4, rp⟩
            · rw [e2] at e3; cases e3
            · rw [e2] at e3; cases e3
              refine tail_any D.typeIs PySem.F.slot_dict_getitem.lookup (wpAny_getItem_heap (knd := nestedKind X.prog X.w) (by show X.A.in1.units + 8 < cLine; simp only [Around.in1_units]; omega) hk D e4 ?_) hs
              exact ⟨w, H, I.tok _, rp, Run.pure sr h rw'⟩
        · rw [if_neg h8] at h; exact h.elim
      | _ => simp only [ek] at h; exact h.elim
  · rw [if_neg en] at h; exact h.elim
theorem ixAt (hw : C.w = X.w) (hu : X.A.units + 66 < cLine) : IxR X (r2 X.K C Ex ixV) := by
  intro value slice pins s σ H x y v u Q I rx ry h hs
  obtain ⟨W, S, a, b, sr, ra, rb, h⟩ := h
  cases a with
  | scr ns => cases b <;> exact h.elim
  | loc n =>
    obtain ⟨hlt, ex⟩ := ra
    subst ex
    cases b with
    | loc m => exact h.elim
    | scr m => exact h.elim
    | d i =>
      cases q : S[n]? with
      | none => simp only [ixV, q] at h; exact h.elim
      | some o =>
        cases o with
        | lst xs =>
          simp only [ixV, q] at h
          obtain ⟨_, ho, h2, vs, rfl, r⟩ := sr.at_ n _ q (fun z => by cases z)
          cases i <;> first | exact h.elim | skip
          rename_i k
          cases e : atI xs k with
          | none => simp only [e] at h; exact h.elim
          | some a =>
            simp only [e] at h
            obtain ⟨w, ew, rw'⟩ := atI_at r e
            have ey := rv_int rb
            subst ey
            exact ix_list value slice pins s σ H _ _ v u Q I rx ry ⟨_, vs, k, w, rfl, rfl, .inl (.inl h2), ew, Run.pure sr h rw'⟩ hs
        | dk kvs =>
          simp only [ixV, q] at h
          obtain ⟨_, ho, h2, kvs', rfl, r⟩ := sr.at_ n _ q (fun z => by cases z)
          cases ek : keyOf i with
          | none => rw [ek] at h; exact h.elim
          | some k =>
            rw [ek] at h
            simp only at h
            have ey := key_v rb ek
            subst ey
            rcases lookV_at (k := k) r with ⟨e1, _⟩ | ⟨a, w, e1, e2, rw'⟩
            · rw [e1] at h; exact h.elim
            · rw [e1] at h
              refine ix_dict (by omega) value slice pins s σ H _ _ v u Q I rx ry ⟨_, w, rfl, ?_, Run.pure sr h rw'⟩ hs
              rw [← e2]
              exact DGet.k h2
        | dd m kvs =>
          simp only [ixV, q] at h
          exact ix_dd hw hu I rx ry sr q rb h hs
        | _ => simp only [ixV, q] at h; exact h.elim
  | d p =>
    cases b with
    | loc m => cases p <;> exact h.elim
    | scr m => cases p <;> exact h.elim
    | d i =>
      cases p <;> cases i <;> first | exact h.elim | skip
      · rename_i z k
        have ex := rv_str ra
        have ey := rv_int rb
        subst ex; subst ey
        have h : Run X.K C Ex (RV X.K) (if z.length ≤ sizeLine then ofO ((atI z.cps.toList k).map fun c => Vl.d (.str ⟨#[c]⟩)) S else .bad) W S H Q := h
        by_cases hz : z.length ≤ sizeLine
        · rw [if_pos hz] at h
          cases e : atI z.cps.toList k with
          | none => rw [e] at h; exact h.elim
          | some c =>
            rw [e] at h
            exact ix_str value slice pins s σ H _ _ v u Q I rx ry ⟨z, k, c, rfl, rfl, hz, e, Run.pure sr h (str_rv (strOk_one (rv_strOk ra) (atI_mem e)))⟩ hs
        · rw [if_neg hz] at h; exact h.elim
      · rename_i ds k
        have ey := rv_int rb
        subst ey
        obtain ⟨p, vs, rfl, sq, r⟩ := rdL_at sr ra rfl
        have h : Run X.K C Ex (RV X.K) (ofO ((atI ds k).map .d) S) W S H Q := h
        rw [← atI_map] at h
        cases e : atI (ds.map Vl.d) k with
        | none => rw [e] at h; exact h.elim
        | some a =>
          rw [e] at h
          obtain ⟨w, ew, rw'⟩ := atI_at r e
          exact ix_list value slice pins s σ H _ _ v u Q I rx ry ⟨_, vs, k, w, rfl, rfl, sq, ew, Run.pure sr h rw'⟩ hs
      · rename_i ds k
        have ey := rv_int rb
        subst ey
        obtain ⟨p, vs, rfl, sq, r⟩ := tup_at sr ra
        have h : Run X.K C Ex (RV X.K) (ofO ((atI ds k).map .d) S) W S H Q := h
        rw [← atI_map] at h
        cases e : atI (ds.map Vl.d) k with
        | none => rw [e] at h; exact h.elim
        | some a =>
          rw [e] at h
          obtain ⟨w, ew, rw'⟩ := atI_at r e
          exact ix_tup value slice pins s σ H _ _ v u Q I rx ry ⟨_, vs, k, w, rfl, rfl, sq, ew, Run.pure sr h rw'⟩ hs
end

/-! ### slices -/
def cutL {α : Type} (xs : List α) (lo hi : Option Int) : List α := (xs.drop (HT.sIx xs.length 0 lo)).take (HT.sIx xs.length xs.length hi - HT.sIx xs.length 0 lo)
theorem RVs.take {K : PySem.W.Frag} {W : Wd} : ∀ {xs : List Vl} {vs : List V} (n : Nat), RVs K W xs vs → RVs K W (xs.take n) (vs.take n)
  | _, _, 0, _ => by rw [List.take_zero, List.take_zero]; exact .nil
  | _, _, n + 1, .nil => .nil
  | _, _, n + 1, .cons h t => .cons h (RVs.take n t)
theorem RVs.drop {K : PySem.W.Frag} {W : Wd} : ∀ {xs : List Vl} {vs : List V} (n : Nat), RVs K W xs vs → RVs K W (xs.drop n) (vs.drop n)
  | _, _, 0, r => r
  | _, _, n + 1, .nil => .nil
  | _, _, n + 1, .cons _ t => RVs.drop n t
theorem RVs.cut {K : PySem.W.Frag} {W : Wd} {xs : List Vl} {vs : List V} {lo hi : Option Int} (r : RVs K W xs vs) : RVs K W (cutL xs lo hi) (cutV vs lo hi) := by
  unfold cutL cutV
  rw [rvs_len r]
  exact RVs.take _ (RVs.drop _ r)
theorem cutL_map {α β : Type} (f : α → β) (xs : List α) (lo hi : Option Int) : cutL (xs.map f) lo hi = (cutL xs lo hi).map f := by
  unfold cutL
  rw [List.length_map, List.map_take, List.map_drop]
def slV (m : Bool) (a : Vl) (lo hi : Option Int) : M Vl := fun S =>
  match rdL S a with
  | some xs => newL m (cutL xs lo hi) S
  | none => match a with
    | .d (.tuple ds) => .ok (.d (.tuple (cutL ds lo hi))) S
    | .d (.str z) => if z.length ≤ sizeLine then .ok (.d (.str (cutS z lo hi))) S else .bad
    | _ => .bad
def rS (K : PySem.W.Frag) (C : Ctx) (Ex : XD) (m : Bool) : V → Option Int → Option Int → Hp → VK → Prop := fun x lo hi H Q => ∃ W S a, SR K C W S H ∧ RV K W a x ∧ Run K C Ex (RV K) (slV m a lo hi S) W S H Q
theorem strOk_cut {z : Str} {lo hi : Option Int} (h : PyData.strOk z = true) : PyData.strOk (cutS z lo hi) = true := by
  rw [strOk_iff] at *
  intro c hc
  unfold cutS at hc
  have hc : c ∈ (z.cps.toList.drop (HT.sIx z.length 0 lo)).take (HT.sIx z.length z.length hi - HT.sIx z.length 0 lo) := by simpa using hc
  exact h c (List.mem_of_mem_drop (List.mem_of_mem_take hc))
section
variable {X : Cx} {C : Ctx} {Ex : XD}
theorem slAt (m : Bool) : SlR X (rS X.K C Ex m) := by
  intro pins s σ H x v vl vu lo hi sl Q I rx hs pl pu h
  obtain ⟨W, S, a, sr, ra, h⟩ := h
  cases e : rdL S a with
  | some xs =>
    simp only [slV, e] at h
    obtain ⟨p, vs, rfl, sq, r⟩ := rdL_at sr ra e
    obtain ⟨_, q⟩ := newL_run sr (RVs.cut r) h
    exact sl_list pins s σ H _ v vl vu lo hi sl Q I rx hs pl pu ⟨p, vs, rfl, sq, q⟩
  | none =>
    simp only [slV, e] at h
    cases a with
    | loc n => exact h.elim
    | scr n => exact h.elim
    | d y =>
      cases y <;> first | exact h.elim | skip
      · rename_i z
        have ex := rv_str ra
        subst ex
        have h : Run X.K C Ex (RV X.K) (if z.length ≤ sizeLine then .ok (.d (.str (cutS z lo hi))) S else .bad) W S H Q := h
        by_cases hz : z.length ≤ sizeLine
        · rw [if_pos hz] at h
          exact sl_str pins s σ H _ v vl vu lo hi sl Q I rx hs pl pu ⟨z, rfl, hz, Run.now sr h (str_rv (strOk_cut (rv_strOk ra)))⟩
        · rw [if_neg hz] at h; exact h.elim
      · rename_i ds
        obtain ⟨p, vs, rfl, sq, r⟩ := rv_tup ra
        have q := Run.tup (vs := cutV vs lo hi) sr (by rw [← cutL_map]; exact RVs.cut r) h
        refine sl_tupA pins s σ H _ v vl vu lo hi sl Q I rx hs pl pu ⟨p, vs, rfl, same_tup sr.sub sq, fun ⟨e1, e2⟩ => q.1 p ?_, fun _ => q.2⟩
        have : cutV vs lo hi = vs := by
          unfold cutV
          rw [e1, e2, List.drop_zero, Nat.sub_zero, List.take_length]
        rw [this]; exact sq
end
end DL

namespace DL
open PySem PySem.Spec PyProof.Rows L2
/-! ### dicts asked -/
/-- membership in a dict -/
def inD (S : Store) (x : PyData) (n : Nat) : Option (Option Bool) := match S[n]? with
  | some (.dk kvs) => some ((keyOf x).map fun k => (lookV kvs k).isSome)
  | some (.dd m kvs) => some (match dataKey x with
    | some (.tup ks) => if m = n ∧ (NestedKey.tup ks).depth ≤ 8 then some (lookN kvs (.tup ks)).isSome else none
    | _ => none)
  | _ => none
def cmpV (o : Cop) (a b : Vl) : M Vl := fun S => match o, a, b with
  | .isin, .d x, .loc n => (match inD S x n with
    | some r => ofO (r.map fun c => Vl.d (.bool c)) S
    | none => cmpO .isin (.d x) (.loc n) S)
  | .notin, .d x, .loc n => (match inD S x n with
    | some r => ofO (r.map fun c => Vl.d (.bool !c)) S
    | none => cmpO .notin (.d x) (.loc n) S)
  | o, a, b => cmpO o a b S
section
variable {X : Cx} {C : Ctx} {Ex : XD}
theorem inD_run (hw : C.w = X.w) (hu : X.A.units + 66 < cLine) {pins : List (Addr × Obj)} {s : Shared} {σ : L2.St} {H : Hp} {W : Wd} {S : Store} {n : Nat} {x : PyData} {y : V} {u : Value} {c : Bool} (I : Inv X pins σ H s) (ru : RelV y u) (sr : SR X.K C W S H) (rx : RV X.K W (.d x) y) (hn : n < W.n) (e : inD S x n = some (some c)) :
    (∀ {Q : VK}, Q (.bl c) H → wpAny (model X.prog X.w) X.A (compareOp .In u (.ref (W.f n))) (EP X pins σ Q) X.xe s) ∧ ∀ {Q : VK}, Q (.bl !c) H → wpAny (model X.prog X.w) X.A (compareOp .NotIn u (.ref (W.f n))) (EP X pins σ Q) X.xe s := by
  cases es : S[n]? with
  | none => simp only [inD, es] at e; cases e
  | some o =>
    cases o with
    | dk kvs =>
      simp only [inD, es] at e
      obtain ⟨_, ho, h2, kvs', rfl, r⟩ := sr.at_ n _ es (fun z => by cases z)
      cases ek : keyOf x with
      | none => rw [ek] at e; cases e
      | some k =>
        rw [ek] at e
        cases e
        have ey := key_v rx ek
        subst ey
        have eq : (lookV kvs k).isSome = (valV kvs' k).isSome := by
          rcases lookV_at (k := k) r with ⟨e1, e2⟩ | ⟨_, _, e1, e2, _⟩ <;> rw [e1, e2] <;> rfl
        dsimp only
        rw [eq]
        exact ⟨fun {Q} q => d_in (by omega) I (DGet.k h2) ru fun s' I' => ⟨V.bl (valV kvs' k).isSome, H, I', rfl, q⟩, fun {Q} q => d_notIn (by omega) I (DGet.k h2) ru fun s' I' => ⟨V.bl (!(valV kvs' k).isSome), H, I', rfl, q⟩⟩
    | dd m kvs =>
      simp only [inD, es] at e
      cases ek : dataKey x with
      | none => simp only [ek] at e; cases e
      | some k =>
        cases k with
        | tup ks =>
          simp only [ek] at e
          by_cases hc : m = n ∧ (NestedKey.tup ks).depth ≤ 8
          · rw [if_pos hc] at e
            cases e
            obtain ⟨xs, vs, r, h2, rv, D, hd, hl⟩ := dd_at hw I sr es hc.1
            obtain ⟨a, ey, eu, hk, hz⟩ := key_at I sr rx ru ek ⟨ks, rfl⟩ hc.2
            subst eu
            have eq : (lookN kvs (.tup ks)).isSome = (atKey (withVs xs vs) (.tup ks)).isSome := by
              rcases lookN_at (k := .tup ks) r with ⟨e1, e2⟩ | ⟨_, _, e1, e2, _⟩ <;> rcases look_at (k := .tup ks) rv with ⟨e3, e4⟩ | ⟨_, _, e3, e4, _⟩ <;> rw [e1, e4] <;> first | rfl | (rw [e2] at e3; cases e3)
            rw [eq]
            have room : (nestedKind X.prog X.w).room X.A.in1 := by show X.A.in1.units + 8 < cLine; simp only [Around.in1_units]; omega
            exact ⟨fun {Q} q => wpAny_in_heap room hk hd D ⟨V.bl (atKey (withVs xs vs) (.tup ks)).isSome, H, I.tok _, rfl, q⟩, fun {Q} q => by
              show wpAny (model X.prog X.w) X.A (do return Value.bool (!(← contains (Value.ref (W.f n)) (Value.ref a)))) (EP X pins σ Q) X.xe s
              exact wpAny_bind (wpAny_contains_heap room hk hd D (wpAny_pure (show EP X pins σ Q (Value.bool (!(atKey (withVs xs vs) (.tup ks)).isSome)) _ from ⟨V.bl (!(atKey (withVs xs vs) (.tup ks)).isSome), H, I.tok _, rfl, q⟩)))⟩
          · rw [if_neg hc] at e; cases e
        | _ => simp only [ek] at e; cases e
    | _ => simp only [inD, es] at e; cases e
theorem opCmp (hw : C.w = X.w) (hu : X.A.units + 66 < cLine) (o : Cop) : OpR X (compareOp o.op) (r2 X.K C Ex (cmpV o)) := by
  intro pins s σ H x y v u Q I rx ry h
  obtain ⟨W, S, a, b, sr, ra, rb, h⟩ := h
  have old : Run X.K C Ex (RV X.K) (cmpO o a b S) W S H Q → wpAny (model X.prog X.w) X.A (compareOp o.op v u) (EP X pins σ Q) X.xe s := fun h => opCmpO hu o pins s σ H x y v u Q I rx ry ⟨W, S, a, b, sr, ra, rb, h⟩
  unfold cmpV at h
  split at h
  · rename_i x0 n
    obtain ⟨hn, ey⟩ := id rb
    subst ey
    cases (show u = Value.ref _ from ry)
    cases e : inD S x0 n with
    | none => simp only [e] at h; exact old h
    | some r =>
      simp only [e] at h
      cases r with
      | none => exact h.elim
      | some c => exact (inD_run hw hu I rx sr ra hn e).1 (Q := Q) (Run.bl (i := c) sr h)
  · rename_i x0 n
    obtain ⟨hn, ey⟩ := id rb
    subst ey
    cases (show u = Value.ref _ from ry)
    cases e : inD S x0 n with
    | none => simp only [e] at h; exact old h
    | some r =>
      simp only [e] at h
      cases r with
      | none => exact h.elim
      | some c => exact (inD_run hw hu I rx sr ra hn e).2 (Q := Q) (Run.bl (i := !c) sr h)
  · exact old h
/-- d[k] = v, the key a tuple -/
theorem set_dd (hw : C.w = X.w) (hu : X.A.units + 66 < cLine) {pins : List (Addr × Obj)} {s : Shared} {σ : L2.St} {H : Hp} {W : Wd} {S : Store} {n m : Nat} {kvs : List (NestedKey × Vl)} {x : PyData} {ks : List NestedKey} {d : Vl} {y z : V} {u r : Value} {T : Unit → Shared → Prop} (I : Inv X pins σ H s) (sr : SR X.K C W S H) (es : S[n]? = some (.dd m kvs)) (hm : m = n) (ek : dataKey x = some (.tup ks)) (h8 : (NestedKey.tup ks).depth ≤ 8) (hl : kvs.length < sizeLine)
    (rx : RV X.K W (.d x) y) (ru : RelV y u) (rd : RV X.K W d z) (rr : RelV z r) (h : ∀ s' W' H', Inv X pins σ H' s' → Tr W S H W' (S.set n (.dd n (putN kvs (.tup ks) d))) H' → SR X.K C W' (S.set n (.dd n (putN kvs (.tup ks) d))) H' → T () s') :
    wpAny (model X.prog X.w) X.A (setItem (.ref (W.f n)) u r) T X.xe s := by
  obtain ⟨xs, vs, rel, h2, rv, D, hd, hlen⟩ := dd_at hw I sr es hm
  obtain ⟨a, ey, eu, hk, hz⟩ := key_at I sr rx ru ek ⟨ks, rfl⟩ h8
  subst eu; subst ey; subst hm
  refine wpAny_setItem_heap (knd := nestedKind X.prog X.w) (by show X.A.in1.units + 8 < cLine; simp only [Around.in1_units]; omega) hk D (fun h' D' sb => ?_) (by rw [hlen]; omega)
  obtain ⟨us, e1, rv'⟩ := put_at (k := .tup ks) (a := a) rv rr
  rw [e1] at D'
  have hn : m < W.n := by rw [sr.len]; exact (List.getElem?_eq_some_iff.mp es).1
  obtain ⟨t, s'⟩ := sr.write (o' := .dd m (putN kvs (.tup ks) d)) (ho := rawD X.w (W.f m) (putR xs (.tup ks) a z)) es (fun q => by cases q) (fun q => by cases q) ⟨_, hn, by rw [hw], putN_at rel hz h8 rd⟩
  obtain ⟨oo, _, _, ho', _⟩ := id D'
  refine h _ _ _ (I.write (e := W.f m) (t' := s.toks + (nestedKind X.prog X.w).draws (.tup ks)) (by rw [h2]; exact True.intro) (.inl rfl) (fun b q hb z => (sb.2 b hb).trans z) ⟨_, ho'⟩ (rawD_ok rv' hd D')) t s'
end
/-! the keys of a dict, as data -/
def keyP : Key → PyData
  | .inl i => .int i
  | .inr x => .str x
def keysD (S : Store) (n : Nat) : Option (List PyData) := match S[n]? with
  | some (.dk kvs) => some (kvs.map fun p => keyP p.1)
  | some (.dd m kvs) => if m = n then some (kvs.map fun p => keyD p.1) else none
  | _ => none
def keysC (S : Store) (n : Nat) : Option (List PyData) := (keysD S n).bind fun ds => if PyData.canLayAll0 ds = true then some ds else none
theorem keyIs_rel {k : Key} {v : Value} (h : keyIs k v = true) : RelV (kV k) v := by
  rcases keyIs_shape h with ⟨i, t, rfl, rfl⟩ | ⟨x, t, rfl, rfl⟩
  · exact ⟨t, rfl⟩
  · exact ⟨t, rfl⟩
theorem vals_of_get {vs : List V} {us : List Value} (hl : vs.length = us.length) (h : ∀ (i : Nat) (v : V) (u : Value), vs[i]? = some v → us[i]? = some u → RelV v u) : Vals vs us := by
  induction vs generalizing us with
  | nil => cases us with
    | nil => exact .nil
    | cons _ _ => simp at hl
  | cons v vs ih => cases us with
    | nil => simp at hl
    | cons u us => exact .cons (h 0 v u rfl rfl) (ih (by simpa using hl) fun i a b e1 e2 => h (i + 1) a b e1 e2)
section
variable {X : Cx} {C : Ctx} {Ex : XD} {pins : List (Addr × Obj)} {s : Shared} {σ : L2.St} {H : Hp} {W : Wd} {S : Store}
theorem dict_keys (hw : C.w = X.w) (I : Inv X pins σ H s) (sr : SR X.K C W S H) {n : Nat} {ds : List PyData} (e : keysD S n = some ds) :
    ∃ es ep ks, s.heap.DictRaw (W.f n) es ep ∧ Vals ks (es.toList.map (·.key)) ∧ DzAll X.K W.z ks ds ∧ (W.f n == sysModules) = false ∧ es.size = ds.length := by
  cases q : S[n]? with
  | none => simp only [keysD, q] at e; cases e
  | some o =>
    cases o with
    | dk kvs =>
      simp only [keysD, q] at e
      cases e
      obtain ⟨_, ho, h2, kvs', rfl, r⟩ := sr.at_ n _ q (fun z => by cases z)
      obtain ⟨z, lo, vs, rel, dd⟩ := dk_of I.hok h2
      obtain ⟨es, ep, hr, hs, hk⟩ := dd.raw
      refine ⟨es, ep, kvs.map fun p => kV p.1, hr, ?_, ?_, lo, by rw [hs, ← rel.length, ← Paired.length r, List.length_map]⟩
      · have ekeys : kvs.map (·.1) = vs.map (·.1) := by
          rw [← rel.keys]
          clear hk hs hr dd z h2 q rel
          induction r with
          | nil => rfl
          | cons h t ih => simp only [List.map_cons, ih, h.1]
        have e2 : (kvs.map fun p => kV p.1) = vs.map fun p => kV p.1 := by
          have := congrArg (List.map kV) ekeys
          rw [List.map_map, List.map_map] at this
          exact this
        rw [e2]
        refine vals_of_get (by rw [List.length_map, List.length_map, Array.length_toList (xs := es), hs]) fun i v u e1 e2 => ?_
        rw [List.getElem?_map] at e1 e2
        cases ev : vs[i]? with
        | none => rw [ev] at e1; cases e1
        | some p =>
          rw [ev] at e1
          cases e1
          have hi : i < es.size := by rw [hs]; exact (List.getElem?_eq_some_iff.mp ev).1
          have := hk i hi p.1 p.2 ev
          rw [Array.getElem?_toList, Array.getElem?_eq_getElem hi] at e2
          cases e2
          exact keyIs_rel this.1
      · clear hk hs hr dd z h2 q rel r
        induction kvs with
        | nil => exact .nil
        | cons p t ih =>
          refine .cons ?_ ih
          obtain ⟨k, v⟩ := p
          cases k with
          | inl i => exact .int i
          | inr x => exact .str x
    | dd m kvs =>
      simp only [keysD, q] at e
      by_cases hm : m = n
      · rw [if_pos hm] at e
        cases e
        obtain ⟨xs, vs, r, h2, rv, D, hd, hl⟩ := dd_at hw I sr q hm
        obtain ⟨es, ep, hr, hs, hk⟩ := D.raw
        have el := rv.length
        rw [List.length_map] at el
        refine ⟨es, ep, xs.map fun x => .ref x.2.1, hr, ?_, ?_, hd, ?_⟩
        · refine vals_of_get (by rw [List.length_map, List.length_map, Array.length_toList (xs := es), hs, withVs_len el]) fun i v u e1 e2 => ?_
          rw [List.getElem?_map] at e1 e2
          cases ev : xs[i]? with
          | none => rw [ev] at e1; cases e1
          | some x =>
            rw [ev] at e1
            cases e1
            have hlt : i < xs.length := (List.getElem?_eq_some_iff.mp ev).1
            have hi : i < es.size := by rw [hs, withVs_len el]; exact hlt
            obtain ⟨y, hy, hk1, _, _⟩ := hk i hi
            rw [Array.getElem?_toList, Array.getElem?_eq_getElem hi] at e2
            cases e2
            unfold withVs at hy
            rw [List.getElem?_map] at hy
            cases ez : (xs.zip vs)[i]? with
            | none => rw [ez] at hy; cases hy
            | some p =>
              rw [ez] at hy
              cases hy
              have := List.getElem?_zip_eq_some.mp ez
              rw [ev] at this
              have e3 : p.1 = x := (Option.some.inj this.1).symm
              show RelV (V.ref x.2.1) es[i].key
              rw [hk1, ← e3]
              exact rfl
        · clear hk hs hr D hl rv h2 q el
          induction r with
          | nil => exact .nil
          | cons h t ih =>
            refine .cons ?_ ih
            dsimp only
            rw [h.1]
            exact h.2.1
        · rw [hs, hl, List.length_map]
      · rw [if_neg hm] at e; cases e
    | _ => simp only [keysD, q] at e; cases e
end
end DL

namespace DL
open PySem PySem.Spec PyProof.Rows L2

/-! ### built-in functions -/
def dBls : List PyData → Option (List Bool)
  | [] => some []
  | .bool b :: r => (dBls r).map (b :: ·)
  | _ :: _ => none
def dInts : List PyData → Option (List Int)
  | [] => some []
  | .int b :: r => (dInts r).map (b :: ·)
  | _ :: _ => none
def dStrs : List PyData → Option (List Str)
  | [] => some []
  | .str b :: r => (dStrs r).map (b :: ·)
  | _ :: _ => none
theorem dBls_eq : ∀ {xs : List PyData} {bs : List Bool}, dBls xs = some bs → xs = bs.map .bool
  | [], _, h => by cases h; rfl
  | x :: r, _, h => by
    cases x <;> first | (cases h; done) | skip
    cases e : dBls r with
    | none => simp only [dBls, e] at h; cases h
    | some t => simp only [dBls, e] at h; cases h; rw [dBls_eq e]; rfl
theorem dInts_eq : ∀ {xs : List PyData} {bs : List Int}, dInts xs = some bs → xs = bs.map .int
  | [], _, h => by cases h; rfl
  | x :: r, _, h => by
    cases x <;> first | (cases h; done) | skip
    cases e : dInts r with
    | none => simp only [dInts, e] at h; cases h
    | some t => simp only [dInts, e] at h; cases h; rw [dInts_eq e]; rfl
theorem dStrs_eq : ∀ {xs : List PyData} {bs : List Str}, dStrs xs = some bs → xs = bs.map .str
  | [], _, h => by cases h; rfl
  | x :: r, _, h => by
    cases x <;> first | (cases h; done) | skip
    cases e : dStrs r with
    | none => simp only [dStrs, e] at h; cases h
    | some t => simp only [dStrs, e] at h; cases h; rw [dStrs_eq e]; rfl
theorem dBls_map (bs : List Bool) : dBls (bs.map .bool) = some bs := by
  induction bs with
  | nil => rfl
  | cons b r ih => show (dBls (r.map .bool)).map (b :: ·) = _; rw [ih]; rfl
theorem dInts_map (bs : List Int) : dInts (bs.map .int) = some bs := by
  induction bs with
  | nil => rfl
  | cons b r ih => show (dInts (r.map .int)).map (b :: ·) = _; rw [ih]; rfl
theorem dStrs_map (bs : List Str) : dStrs (bs.map .str) = some bs := by
  induction bs with
  | nil => rfl
  | cons b r ih => show (dStrs (r.map .str)).map (b :: ·) = _; rw [ih]; rfl
theorem rvs_bls {K : PySem.W.Frag} {W : Wd} : ∀ {bs : List Bool} {vs : List V}, RVs K W ((bs.map PyData.bool).map .d) vs → vs = bs.map V.bl
  | [], _, h => by cases h; rfl
  | b :: r, _, h => by
    cases h with
    | cons h t => rw [rv_bl h, rvs_bls t]; rfl
theorem rvs_ints {K : PySem.W.Frag} {W : Wd} : ∀ {bs : List Int} {vs : List V}, RVs K W ((bs.map PyData.int).map .d) vs → vs = bs.map V.int
  | [], _, h => by cases h; rfl
  | b :: r, _, h => by
    cases h with
    | cons h t => rw [rv_int h, rvs_ints t]; rfl
theorem rvs_strs {K : PySem.W.Frag} {W : Wd} : ∀ {bs : List Str} {vs : List V}, RVs K W ((bs.map PyData.str).map .d) vs → vs = bs.map V.str ∧ ∀ z ∈ bs, PyData.strOk z = true
  | [], _, h => by cases h; exact ⟨rfl, fun _ h => by cases h⟩
  | b :: r, _, h => by
    cases h with
    | cons h t =>
      obtain ⟨e, q⟩ := rvs_strs t
      rw [rv_str h, e]
      refine ⟨rfl, fun z hz => ?_⟩
      rcases List.mem_cons.mp hz with rfl | hz
      · exact rv_strOk h
      · exact q z hz
/-- a list's or tuple's items as data -/
def seqD (S : Store) (v : Vl) : Option (List PyData) := match v with
  | .d (.tuple xs) => some xs
  | v => (rdL S v).bind pds
theorem seqD_at {K : PySem.W.Frag} {C : Ctx} {W : Wd} {S : Store} {H : Hp} {v : Vl} {x : V} {ds : List PyData} (s : SR K C W S H) (r : RV K W v x) (e : seqD S v = some ds) :
    ∃ p vs, x = .ref p ∧ (SqL K H p vs ∨ SqT K H p vs) ∧ RVs K W (ds.map .d) vs := by
  have lst : (rdL S v).bind pds = some ds → ∃ p vs, x = .ref p ∧ (SqL K H p vs ∨ SqT K H p vs) ∧ RVs K W (ds.map .d) vs := fun e => by
    cases q : rdL S v with
    | none => rw [q] at e; cases e
    | some xs =>
      rw [q] at e
      have e : pds xs = some ds := e
      obtain ⟨p, vs, h1, h2, h3⟩ := rdL_at s r q
      rw [pds_eq e] at h3
      exact ⟨p, vs, h1, .inl h2, h3⟩
  cases v with
  | loc n => exact lst e
  | scr n => exact lst e
  | d y =>
    cases y with
    | tuple xs =>
      cases e
      obtain ⟨p, vs, h1, h2, h3⟩ := tup_at s r
      exact ⟨p, vs, h1, .inr h2, h3⟩
    | _ => exact lst e
end DL

namespace DL
open PySem PySem.Spec PyProof.Rows L2
/-! ### further built-in functions: sorted, max and min of a list, dict of pairs -/
inductive Bx | srt (m : Bool) | max1 | min1 | dictp
def Bx.name : Bx → Str
  | .srt _ => "sorted" | .max1 => "max" | .min1 => "min" | .dictp => "dict"
def Bx.val : Bx → Value
  | .srt _ => .builtin "sorted" | .max1 => .builtin "max" | .min1 => .builtin "min" | .dictp => .type "dict"
/-- the items of a list or a tuple, the keys of a dict -/
def itemsC (S : Store) (a : Vl) : Option (List PyData) := match seqD S a with
  | some ds => some ds
  | none => match a with
    | .loc n => keysC S n
    | _ => none
def putL (kvs : List (Key × Vl)) (k : Key) (v : Vl) : List (Key × Vl) := if (kvs.any fun kv => decide (kv.1 = k)) = true then kvs.map (fun kv => if kv.1 = k then (kv.1, v) else kv) else kvs ++ [(k, v)]
def pairsL : List PyData → Option (List (Key × Vl))
  | [] => some []
  | .tuple [k, v] :: r => (keyOf k).bind fun k => (pairsL r).map fun t => (k, .d v) :: t
  | _ :: _ => none
noncomputable section
open Classical in
def bxV (b : Bx) (a : Vl) : M Vl := fun S => match b with
  | .srt m => (match itemsC S a with
    | some ds => if SrtOk ds then newL m ((srtD ds).map .d) S else .bad
    | none => .bad)
  | .max1 => (match (rdL S a).bind pds with
    | some ds => (match dInts ds with
      | some (i :: is) => .ok (.d (.int (is.foldl max i))) S
      | _ => .bad)
    | none => .bad)
  | .min1 => (match (rdL S a).bind pds with
    | some ds => (match dInts ds with
      | some (i :: is) => .ok (.d (.int (is.foldl min i))) S
      | _ => .bad)
    | none => .bad)
  | .dictp => (match (rdL S a).bind pds with
    | some ds => (match pairsL ds with
      | some kvs => .ok (.loc S.length) (S ++ [.dk (kvs.foldl (fun t p => putL t p.1 p.2) [])])
      | none => .bad)
    | none => .bad)
end
theorem fold_max {i : Int} : ∀ {is : List Int}, (is.foldl max i) ∈ i :: is ∧ ∀ y ∈ i :: is, y ≤ is.foldl max i := by
  intro is
  induction is generalizing i with
  | nil => exact ⟨by simp, fun y hy => by rw [List.mem_singleton.mp hy]; exact Int.le_refl _⟩
  | cons a r ih =>
    obtain ⟨h1, h2⟩ := ih (i := max i a)
    rw [List.foldl_cons]
    refine ⟨?_, fun y hy => ?_⟩
    · rcases List.mem_cons.mp h1 with e | e
      · rw [e]
        rcases Int.le_total i a with h | h
        · rw [Int.max_eq_right h]; simp
        · rw [Int.max_eq_left h]; simp
      · exact List.mem_cons_of_mem _ (List.mem_cons_of_mem _ e)
    · have h3 := h2 (max i a) List.mem_cons_self
      rcases List.mem_cons.mp hy with rfl | hy
      · exact Int.le_trans (Int.le_max_left _ _) h3
      · rcases List.mem_cons.mp hy with rfl | hy
        · exact Int.le_trans (Int.le_max_right _ _) h3
        · exact h2 y (List.mem_cons_of_mem _ hy)
theorem fold_min {i : Int} : ∀ {is : List Int}, (is.foldl min i) ∈ i :: is ∧ ∀ y ∈ i :: is, is.foldl min i ≤ y := by
  intro is
  induction is generalizing i with
  | nil => exact ⟨by simp, fun y hy => by rw [List.mem_singleton.mp hy]; exact Int.le_refl _⟩
  | cons a r ih =>
    obtain ⟨h1, h2⟩ := ih (i := min i a)
    rw [List.foldl_cons]
    refine ⟨?_, fun y hy => ?_⟩
    · rcases List.mem_cons.mp h1 with e | e
      · rw [e]
        rcases Int.le_total i a with h | h
        · rw [Int.min_eq_left h]; simp
        · rw [Int.min_eq_right h]; simp
      · exact List.mem_cons_of_mem _ (List.mem_cons_of_mem _ e)
    · have h3 := h2 (min i a) List.mem_cons_self
      rcases List.mem_cons.mp hy with rfl | hy
      · exact Int.le_trans h3 (Int.min_le_left _ _)
      · rcases List.mem_cons.mp hy with rfl | hy
        · exact Int.le_trans h3 (Int.min_le_right _ _)
        · exact h2 y (List.mem_cons_of_mem _ hy)
section
variable {X : Cx} {C : Ctx} {Ex : XD}
theorem lstD_at {K : PySem.W.Frag} {W : Wd} {S : Store} {H : Hp} {v : Vl} {x : V} {ds : List PyData} (s : SR K C W S H) (r : RV K W v x) (e : (rdL S v).bind pds = some ds) :
    ∃ p vs, x = .ref p ∧ SqL K H p vs ∧ RVs K W (ds.map .d) vs := by
  cases q : rdL S v with
  | none => rw [q] at e; cases e
  | some xs =>
    rw [q] at e
    have e : pds xs = some ds := e
    obtain ⟨p, vs, h1, h2, h3⟩ := rdL_at s r q
    rw [pds_eq e] at h3
    exact ⟨p, vs, h1, h2, h3⟩
/-- what a list of data sorted is to its values -/
theorem rvs_srt {K : PySem.W.Frag} {W : Wd} {vs : List V} {ds : List PyData} (r : RVs K W (ds.map .d) vs) : RVs K W ((srtD ds).map .d) (srtV vs ds) := by
  have e0 : vs.length = ds.length := (len_map r).symm
  have hp : ∀ b ∈ vs.zip ds, RV K W (.d b.2) b.1 := by
    clear e0
    induction ds generalizing vs with
    | nil => intro b hb; rw [List.zip_nil_right] at hb; cases hb
    | cons d ds ih =>
      cases r with
      | cons h t =>
        intro b hb
        rcases List.mem_cons.mp hb with rfl | hb
        · exact h
        · exact ih t b hb
  rw [← srt_snd e0]
  unfold srtV
  have hq : ∀ b ∈ (vs.zip ds).mergeSort (PySem.W.dataLe false (·.2)), RV K W (.d b.2) b.1 := fun b hb => hp b ((List.mergeSort_perm _ _).mem_iff.mp hb)
  generalize (vs.zip ds).mergeSort (PySem.W.dataLe false (·.2)) = l at hq
  induction l with
  | nil => exact .nil
  | cons b l ih => exact .cons (hq b List.mem_cons_self) (ih fun c hc => hq c (List.mem_cons_of_mem _ hc))
theorem one_run {K : PySem.W.Frag} {W : Wd} {S : Store} {H : Hp} {Q : V → Hp → Prop} {g : Vl → M Vl} {as : List Vl} {xs : List V} (r : RVs K W as xs) (h : Run K C Ex (RV K) ((match as with
    | [a] => g a
    | _ => bad) S) W S H Q) : ∃ a x, as = [a] ∧ xs = [x] ∧ RV K W a x ∧ Run K C Ex (RV K) (g a S) W S H Q := by
  match as, r, h with
  | [a], r, h =>
    cases r with
    | cons h1 t => cases t; exact ⟨_, _, rfl, rfl, h1, h⟩
  | [], _, h => exact h.elim
  | _ :: _ :: _, _, h => exact h.elim
theorem cr_srtX (hw : C.w = X.w) (hc : X.calm = true) (hu : X.A.units + 66 < cLine) (m : Bool) : CallR X (.builtin "sorted") (rN X.K C Ex fun as => match as with
    | [a] => bxV (.srt m) a
    | _ => bad) := by
  intro pins s σ H xs us Q I r h
  obtain ⟨W, S, as, sr, ra, h⟩ := h
  obtain ⟨a, x, rfl, rfl, ra, h⟩ := one_run ra h
  cases r with
  | cons rx rt =>
    cases rt
    have h : Run X.K C Ex (RV X.K) (bxV (.srt m) a S) W S H Q := h
    unfold bxV itemsC at h
    cases e : seqD S a with
    | some ds =>
      simp only [e] at h
      by_cases hok : SrtOk ds
      · rw [if_pos hok] at h
        obtain ⟨p, vs, rfl, hs, rv⟩ := seqD_at sr ra e
        have := newL_run sr (rvs_srt rv) h
        exact op_sorted hu I rx rfl hs (dzAll_dp (dzAll_mono sr.sub (rvs_dp rv).1)) hok this.2
      · rw [if_neg hok] at h; exact h.elim
    | none =>
      simp only [e] at h
      cases a with
      | loc n =>
        simp only [keysC] at h
        cases ek : keysD S n with
        | none => simp only [ek] at h; exact h.elim
        | some ds =>
          simp only [ek, Option.bind_some] at h
          by_cases hcl : PyData.canLayAll0 ds = true
          · rw [if_pos hcl] at h
            simp only at h
            by_cases hok : SrtOk ds
            · rw [if_pos hok] at h
              obtain ⟨es, ep, ks, hr, rk, hz, lo, hl⟩ := dict_keys hw I sr ek
              have rv : RVs X.K W (ds.map .d) ks := dp_rvs hz hcl
              obtain ⟨_, ex⟩ := id ra
              subst ex
              cases (show _ = Value.ref _ from rx)
              have q := (newL_run sr (rvs_srt rv) h).2
              have e0 : ks.length = ds.length := (len_map rv).symm
              refine RT.sorted_any (R := fun u (b : PrD) => RelV b.1 u) (enc := fun b => b.2) (U := fun us' bs => us' = es.toList.map (·.key) ∧ bs = ks.zip ds) (fun {T'} k => ?_) (fun us' bs u => ?_) fun us' bs out p' h' tk c u eo kp np hp => ?_
              · refine PySem.W.kdu_collect (KdlSrc.rawDict lo) (I.ok.hd hc) hr (by rw [hl]; exact hok.len) fun h' tk acc kp hi => ?_
                have e1 : acc.toList = es.toList.map (·.key) := by
                  refine List.ext_getElem? fun i => ?_
                  rw [List.getElem?_map, Array.getElem?_toList, Array.getElem?_toList]
                  by_cases hlt : i < es.size
                  · obtain ⟨v, hv⟩ : ∃ v, acc[i]? = some v := ⟨acc[i]'(by rw [hi.1]; exact hlt), Array.getElem?_eq_getElem _⟩
                    obtain ⟨_, ev⟩ := hi.2 i v hv
                    rw [hv, Array.getElem?_eq_getElem hlt, ev]; rfl
                  · rw [Array.getElem?_eq_none (by rw [hi.1]; omega), Array.getElem?_eq_none (by omega)]; rfl
                rw [e1]
                exact k h' tk _ (ks.zip ds) kp ⟨rfl, rfl⟩
              · obtain ⟨rfl, rfl⟩ := u
                refine ⟨each_vals rk e0, each_reads I rk (dzAll_dp (dzAll_mono sr.sub hz)), by rw [zip_snd e0]; exact hok.al, by rw [zip_snd e0]; exact hok.so, by rw [List.length_zip, e0, Nat.min_self]; exact hok.len, fun b hb => ?_⟩
                have := hok.dep b.2 (by rw [← zip_snd e0]; exact List.mem_map.mpr ⟨b, hb, rfl⟩)
                omega
              · obtain ⟨rfl, rfl⟩ := u
                have np' := free_of I.hok np
                refine ⟨.ref p', _, I.laidN (t' := tk) kp np np' (o := .lst (srtV ks ds)) ⟨by rw [srtV_len e0]; exact hok.len, out, c, vals_each eo, hp⟩, rfl, q p' np'⟩
            · rw [if_neg hok] at h; exact h.elim
          · rw [if_neg hcl] at h; exact h.elim
      | _ => exact h.elim
theorem cr_max1X (hc : X.calm = true) : CallR X (.builtin "max") (rN X.K C Ex fun as => match as with
    | [a] => bxV .max1 a
    | _ => bad) := by
  intro pins s σ H xs us Q I r h
  obtain ⟨W, S, as, sr, ra, h⟩ := h
  obtain ⟨a, x, rfl, rfl, ra, h⟩ := one_run ra h
  have h : Run X.K C Ex (RV X.K) (bxV .max1 a S) W S H Q := h
  unfold bxV at h
  cases e : (rdL S a).bind pds with
  | none => simp only [e] at h; exact h.elim
  | some ds =>
    simp only [e] at h
    cases e2 : dInts ds with
    | none => simp only [e2] at h; exact h.elim
    | some is =>
      cases is with
      | nil => simp only [e2] at h; exact h.elim
      | cons i is =>
        simp only [e2] at h
        obtain ⟨p, vs, rfl, sq, rv⟩ := lstD_at sr ra e
        rw [dInts_eq e2] at rv
        rw [rvs_ints rv] at sq
        refine L2.cr_max hc pins s σ H _ us Q I r ⟨p, i :: is, rfl, sq, by simp, fun m hm hy => ?_⟩
        have h1 := fold_max (i := i) (is := is)
        have em : m = is.foldl max i := Int.le_antisymm (h1.2 m hm) (hy _ h1.1)
        rw [em]
        exact Run.now sr h (int_rv _)
theorem cr_min1X (hc : X.calm = true) : CallR X (.builtin "min") (rN X.K C Ex fun as => match as with
    | [a] => bxV .min1 a
    | _ => bad) := by
  intro pins s σ H xs us Q I r h
  obtain ⟨W, S, as, sr, ra, h⟩ := h
  obtain ⟨a, x, rfl, rfl, ra, h⟩ := one_run ra h
  have h : Run X.K C Ex (RV X.K) (bxV .min1 a S) W S H Q := h
  unfold bxV at h
  cases e : (rdL S a).bind pds with
  | none => simp only [e] at h; exact h.elim
  | some ds =>
    simp only [e] at h
    cases e2 : dInts ds with
    | none => simp only [e2] at h; exact h.elim
    | some is =>
      cases is with
      | nil => simp only [e2] at h; exact h.elim
      | cons i is =>
        simp only [e2] at h
        obtain ⟨p, vs, rfl, sq, rv⟩ := lstD_at sr ra e
        rw [dInts_eq e2] at rv
        rw [rvs_ints rv] at sq
        refine L2.cr_min hc pins s σ H _ us Q I r ⟨p, i :: is, rfl, sq, by simp, fun m hm hy => ?_⟩
        have h1 := fold_min (i := i) (is := is)
        have em : m = is.foldl min i := Int.le_antisymm (hy _ h1.1) (h1.2 m hm)
        rw [em]
        exact Run.now sr h (int_rv _)
theorem pairs_at {K : PySem.W.Frag} {W : Wd} {S : Store} {H : Hp} (sr : SR K C W S H) : ∀ {ds : List PyData} {vs : List V} {kvs : List (Key × Vl)}, RVs K W (ds.map .d) vs → pairsL ds = some kvs →
    ∃ (ps : List Addr) (kv' : List (Key × V)), vs = ps.map V.ref ∧ Paired (fun p (kv : Key × V) => SqT K H p [kV kv.1, kv.2]) ps kv' ∧ Paired (fun (p : Key × Vl) (q : Key × V) => p.1 = q.1 ∧ RV K W p.2 q.2) kvs kv'
  | [], _, _, r, e => by cases r; cases e; exact ⟨[], [], rfl, .nil, .nil⟩
  | .tuple [k, v] :: ds, _, kvs, r, e => by
    cases r with
    | cons h t =>
      simp only [pairsL, Option.bind_eq_some_iff, Option.map_eq_some_iff] at e
      obtain ⟨kk, ek, t', et, rfl⟩ := e
      obtain ⟨ps, kv', e1, e2, e3⟩ := pairs_at sr t et
      obtain ⟨a, ws, rfl, sq, rw'⟩ := tup_at sr h
      cases rw' with
      | cons h1 rw' =>
        cases rw' with
        | cons h2 rw' =>
          cases rw'
          have := key_v h1 ek
          subst this
          subst e1
          exact ⟨a :: ps, (kk, _) :: kv', rfl, .cons sq e2, .cons ⟨rfl, h2⟩ e3⟩
  | .none :: _, _, _, _, e | .bool _ :: _, _, _, _, e | .int _ :: _, _, _, _, e | .str _ :: _, _, _, _, e | .list _ :: _, _, _, _, e | .dict _ :: _, _, _, _, e | .tuple [] :: _, _, _, _, e | .tuple [_] :: _, _, _, _, e | .tuple (_ :: _ :: _ :: _) :: _, _, _, _, e => by simp [pairsL] at e
theorem putL_rel {K : PySem.W.Frag} {W : Wd} {k : Key} {a : Vl} {v : V} (rv : RV K W a v) {kvs : List (Key × Vl)} {kvs' : List (Key × V)} (h : Paired (fun (p : Key × Vl) (q : Key × V) => p.1 = q.1 ∧ RV K W p.2 q.2) kvs kvs') :
    Paired (fun (p : Key × Vl) (q : Key × V) => p.1 = q.1 ∧ RV K W p.2 q.2) (putL kvs k a) (putK kvs' k v) := by
  have e : (kvs.any fun kv => decide (kv.1 = k)) = (kvs'.any fun kv => decide (kv.1 = k)) := by
    induction h with
    | nil => rfl
    | cons h t ih => simp only [List.any_cons, ih, h.1]
  unfold putL putK
  rw [e]
  by_cases c : (kvs'.any fun kv => decide (kv.1 = k)) = true
  · rw [if_pos c, if_pos c]
    clear c e
    induction h with
    | nil => exact .nil
    | @cons p q _ _ h t ih =>
      refine .cons ?_ ih
      by_cases hk : p.1 = k
      · dsimp only; rw [if_pos hk, if_pos (h.1 ▸ hk)]; exact ⟨h.1, rv⟩
      · dsimp only; rw [if_neg hk, if_neg (h.1 ▸ hk)]; exact h
  · rw [if_neg c, if_neg c]
    clear c e
    induction h with
    | nil => exact .cons ⟨rfl, rv⟩ .nil
    | cons h t ih => exact .cons h ih
theorem cr_dictX (hc : X.calm = true) : CallR X (.type "dict") (rN X.K C Ex fun as => match as with
    | [a] => bxV .dictp a
    | _ => bad) := by
  intro pins s σ H xs us Q I r h
  obtain ⟨W, S, as, sr, ra, h⟩ := h
  obtain ⟨a, x, rfl, rfl, ra, h⟩ := one_run ra h
  have h : Run X.K C Ex (RV X.K) (bxV .dictp a S) W S H Q := h
  unfold bxV at h
  cases e : (rdL S a).bind pds with
  | none => simp only [e] at h; exact h.elim
  | some ds =>
    simp only [e] at h
    cases e2 : pairsL ds with
    | none => simp only [e2] at h; exact h.elim
    | some kvs =>
      simp only [e2] at h
      obtain ⟨p, vs, rfl, sq, rv⟩ := lstD_at sr ra e
      obtain ⟨ps, kv', rfl, h1, h2⟩ := pairs_at sr rv e2
      refine call_dictP hc pins s σ H _ us Q I r ⟨p, ps, kv', rfl, sq, h1, fun q hq => ?_⟩
      have hm : ∀ {kvs : List (Key × Vl)} {kv' : List (Key × V)} {acc : List (Key × Vl)} {acc' : List (Key × V)}, Paired (fun (p : Key × Vl) (q : Key × V) => p.1 = q.1 ∧ RV X.K W p.2 q.2) kvs kv' → Paired (fun (p : Key × Vl) (q : Key × V) => p.1 = q.1 ∧ RV X.K W p.2 q.2) acc acc' →
          Paired (fun (p : Key × Vl) (q : Key × V) => p.1 = q.1 ∧ RV X.K W p.2 q.2) (kvs.foldl (fun t p => putL t p.1 p.2) acc) (mergeK acc' kv') := by
        intro kvs kv' acc acc' h
        induction h generalizing acc acc' with
        | nil => exact fun h => h
        | cons h t ih =>
          intro ha
          obtain ⟨e1, e2⟩ := h
          refine ih ?_
          dsimp only
          rw [e1]
          exact putL_rel e2 ha
      obtain ⟨t, s'⟩ := sr.alloc (o := .dk (kvs.foldl (fun t p => putL t p.1 p.2) [])) (ho := .dK (mergeK [] kv')) hq ⟨_, rfl, hm h2 .nil⟩
      refine h _ _ _ t s' ⟨by show S.length < W.n + 1; rw [sr.len]; exact Nat.lt_succ_self _, ?_⟩
      show _ = V.ref (if S.length = W.n then q else _)
      rw [if_pos sr.len.symm]
theorem crBx (hw : C.w = X.w) (hc : X.calm = true) (hu : X.A.units + 66 < cLine) (b : Bx) : CallR X b.val (rN X.K C Ex fun as => match as with
    | [a] => bxV b a
    | _ => bad) := by
  cases b with
  | srt m => exact cr_srtX hw hc hu m
  | max1 => exact cr_max1X hc
  | min1 => exact cr_min1X hc
  | dictp => exact cr_dictX hc
end
end DL

namespace DL
open PySem PySem.Spec PyProof.Rows L2
/-! ### further methods -/
inductive Mx | split | starts | indexL | indexT | count | get2 | setdef
def Mx.ty : Mx → String
  | .split => "str" | .starts => "str" | .indexL => "list" | .indexT => "tuple" | .count => "list" | .get2 => "dict" | .setdef => "dict"
def Mx.name : Mx → Str
  | .split => "split" | .starts => "startswith" | .indexL => "index" | .indexT => "index" | .count => "count" | .get2 => "get" | .setdef => "setdefault"
def Mx.id : Mx → String
  | .split => "str.split" | .starts => "str.startswith" | .indexL => "list.index" | .indexT => "tuple.index" | .count => "list.count" | .get2 => "dict.get" | .setdef => "dict.setdefault"
/-- where a datum stands first -/
def plcD (xs : List PyData) (d : PyData) : Option Nat := xs.findIdx? fun y => PyData.eqv y d
def mxV (m : Mx) (a : Vl) (as : List Vl) : M Vl := fun S => match m, as with
  | .split, [.d (.str y)] => (match a with
    | .d (.str z) => if (y.length == 0) = false ∧ z.length + 2 ≤ sizeLine then newL false (((Txt.split z y).map PyData.str).map .d) S else .bad
    | _ => .bad)
  | .starts, [.d (.str y)] => (match a with
    | .d (.str z) => .ok (.d (.bool (Txt.startswith z y))) S
    | _ => .bad)
  | .indexL, [.d x] => (match (rdL S a).bind pds with
    | some ds => if (PyData.list ds).depth ≤ 64 ∧ x.depth ≤ 64 then (match plcD ds x with
      | some j => .ok (.d (.int j)) S
      | none => .bad) else .bad
    | none => .bad)
  | .indexT, [.d (.str y)] => (match a with
    | .d (.tuple ds) => (match dStrs ds with
      | some zs => (match zs.idxOf? y with
        | some j => .ok (.d (.int j)) S
        | none => .bad)
      | none => .bad)
    | _ => .bad)
  | .count, [.d x] => (match (rdL S a).bind pds with
    | some ds => if PyData.depthAll ds ≤ 60 then .ok (.d (.int (ds.countP fun y => PyData.eqv y x : Nat))) S else .bad
    | none => .bad)
  | .get2, [.d x, y] => (match a with
    | .loc n => (match S[n]? with
      | some (.dk kvs) => (match keyOf x with
        | some k => .ok ((lookV kvs k).getD y) S
        | none => .bad)
      | some (.dd m kvs) => (match dataKey x with
        | some (.tup ks) => if m = n ∧ (NestedKey.tup ks).depth ≤ 8 then .ok ((lookN kvs (.tup ks)).getD y) S else .bad
        | _ => .bad)
      | _ => .bad)
    | _ => .bad)
  | .setdef, [.d x, y] => (match a with
    | .loc n => (match S[n]? with
      | some (.dk kvs) => (match keyOf x with
        | some k => if kvs.length < sizeLine then (match lookV kvs k with
          | some v => .ok v S
          | none => .ok y (S.set n (.dk (putL kvs k y)))) else .bad
        | none => .bad)
      | _ => .bad)
    | _ => .bad)
  | _, _ => .bad
section
variable {X : Cx} {C : Ctx} {Ex : XD}
theorem app_cps (z y : Str) : (z ++ y).cps.toList = z.cps.toList ++ y.cps.toList := by
  show (z.cps ++ y.cps).toList = _
  exact Array.toList_append
theorem join_mem {y : Str} : ∀ {l : List Str} {w : Str} {c : Nat}, w ∈ l → c ∈ w.cps.toList → c ∈ (Str.join y l).cps.toList
  | [a], w, c, hw, hc => by rw [List.mem_singleton.mp hw] at hc; exact hc
  | a :: b :: r, w, c, hw, hc => by
    show c ∈ (a ++ y ++ Str.join y (b :: r)).cps.toList
    rw [app_cps, app_cps]
    rcases List.mem_cons.mp hw with rfl | hw
    · simp [hc]
    · have := join_mem (y := y) hw hc
      simp [this]
theorem strOk_split {z y : Str} (h : PyData.strOk z = true) : ∀ w ∈ Txt.split z y, PyData.strOk w = true := fun w hw => by
  have e := PySem.StrLaws.join_split z y
  rw [strOk_iff] at h ⊢
  intro c hc
  exact h c (by rw [← e]; exact join_mem hw hc)
theorem mxAll (hw : C.w = X.w) (hc : X.calm = true) (hu : X.A.units + 66 < cLine) (m : Mx) : MtR X m.id (rM X.K C Ex (mxV m)) := by
  intro pins s σ H x xs v us Q I rx rxs h
  obtain ⟨W, S, a, as, sr, ra, ras, h⟩ := h
  unfold mxV at h
  split at h
  · -- split
    rename_i y
    obtain ⟨y', rfl, rb⟩ : ∃ y', xs = [y'] ∧ RV X.K W (.d (.str y)) y' := by
      cases ras with
      | cons h t => cases t; exact ⟨_, rfl, h⟩
    have := rv_str rb; subst this
    split at h
    · rename_i z
      have := rv_str ra; subst this
      split at h
      · rename_i hc'
        have r : RVs X.K W (((Txt.split z y).map PyData.str).map .d) ((Txt.split z y).map V.str) := by
          have hs := strOk_split (y := y) (rv_strOk ra)
          generalize Txt.split z y = l at hs
          induction l with
          | nil => exact .nil
          | cons a l ih => exact .cons (str_rv (hs a List.mem_cons_self)) (ih fun w hw => hs w (List.mem_cons_of_mem _ hw))
        exact mt_split pins s σ H _ _ v us Q I rx rxs ⟨z, y, rfl, rfl, hc'.1, hc'.2, (newL_run sr r h).2⟩
      · exact h.elim
    · exact h.elim
  · rename_i y
    obtain ⟨y', rfl, rb⟩ : ∃ y', xs = [y'] ∧ RV X.K W (.d (.str y)) y' := by
      cases ras with
      | cons h t => cases t; exact ⟨_, rfl, h⟩
    have := rv_str rb; subst this
    split at h
    · rename_i z
      have := rv_str ra; subst this
      exact mt_startswith pins s σ H _ _ v us Q I rx rxs ⟨z, y, rfl, rfl, Run.now sr h (bl_rv _)⟩
    · exact h.elim
  · rename_i d
    obtain ⟨y', rfl, rb⟩ : ∃ y', xs = [y'] ∧ RV X.K W (.d d) y' := by
      cases ras with
      | cons h t => cases t; exact ⟨_, rfl, h⟩
    split at h
    · rename_i ds e
      split at h
      · rename_i hd
        split at h
        · rename_i j ej
          obtain ⟨p, vs, rfl, sq, rv⟩ := lstD_at sr ra e
          obtain ⟨h1, h2⟩ := rvs_dp rv
          have ej' := List.findIdx?_eq_some_iff_getElem.mp ej
          obtain ⟨hj, hp, hno⟩ := ej'
          refine mt_indexD (by omega) pins s σ H _ _ v us Q I rx rxs ⟨p, y', d, ds, j, ds[j], rfl, rfl, .lst sq (dzAll_dp (dzAll_mono sr.sub h1)), dz_dp (dz_mono sr.sub rb.1), ?_, ?_, List.getElem?_eq_getElem hj, hp, fun m z hm hz => ?_, Run.now sr h (int_rv _)⟩
          · simp only [SeqAt.shaped, Bool.and_eq_true, decide_eq_true_eq]
            exact ⟨by simpa [PyData.canLay0] using h2, hd.1⟩
          · simp only [SeqAt.shaped, Bool.and_eq_true, decide_eq_true_eq]
            exact ⟨rb.2, hd.2⟩
          · have hlt : m < ds.length := by omega
            rw [List.getElem?_eq_getElem hlt] at hz
            cases hz
            simpa using hno m hm
        · exact h.elim
      · exact h.elim
    · exact h.elim
  · rename_i y
    obtain ⟨y', rfl, rb⟩ : ∃ y', xs = [y'] ∧ RV X.K W (.d (.str y)) y' := by
      cases ras with
      | cons h t => cases t; exact ⟨_, rfl, h⟩
    have := rv_str rb; subst this
    split at h
    · rename_i ds
      split at h
      · rename_i zs ez
        split at h
        · rename_i j ej
          obtain ⟨p, vs, rfl, sq, rv⟩ := tup_at sr ra
          rw [dStrs_eq ez] at rv
          rw [(rvs_strs rv).1] at sq
          obtain ⟨h1, h2⟩ : zs[j]? = some y ∧ ∀ m, m < j → zs[m]? ≠ some y := by
            obtain ⟨hj, hp, hno⟩ := List.findIdx?_eq_some_iff_getElem.mp (show zs.findIdx? (· == y) = some j from ej)
            refine ⟨by rw [List.getElem?_eq_getElem hj]; exact congrArg some (beq_iff_eq.mp hp), fun m hm e => ?_⟩
            have := hno m hm
            have hlt : m < zs.length := by omega
            rw [List.getElem?_eq_getElem hlt] at e
            rw [Option.some.inj e] at this
            simp at this
          exact mt_tup_index pins s σ H _ _ v us Q I rx rxs ⟨p, zs, y, j, rfl, rfl, sq, h1, h2, Run.now sr h (int_rv _)⟩
        · exact h.elim
      · exact h.elim
    · exact h.elim
  · rename_i d
    obtain ⟨y', rfl, rb⟩ : ∃ y', xs = [y'] ∧ RV X.K W (.d d) y' := by
      cases ras with
      | cons h t => cases t; exact ⟨_, rfl, h⟩
    split at h
    · rename_i ds e
      split at h
      · rename_i hd
        obtain ⟨p, vs, rfl, sq, rv⟩ := lstD_at sr ra e
        obtain ⟨h1, h2⟩ := rvs_dp rv
        cases rxs with
        | cons r1 rt =>
          cases rt
          cases (show v = Value.ref _ from rx)
          obtain ⟨its, rits, pl, _⟩ := I.list sq
          obtain ⟨as, ra'⟩ := Dp.readsAll I ds vs its (dzAll_dp (dzAll_mono sr.sub h1)) rits
          obtain ⟨bs, rb'⟩ := Dp.reads I d y' _ (dz_dp (dz_mono sr.sub rb.1)) r1
          refine PySem.SeqAt.count_list_data pl.isList (by rw [List.toList_toArray]; exact ra') rb' ?_ (PyData.plain_of_canLay0 d rb.2) ?_ ?_
          · have := PyData.plain_of_canLay0 (.list ds) (by simpa [PyData.canLay0] using h2)
            simpa [PyData.plain] using this
          · have := Nat.min_le_left (PyData.depthAll ds) d.depth
            omega
          · exact ⟨.int _, H, I.tok _, ⟨_, rfl⟩, Run.now sr h (int_rv _)⟩
      · exact h.elim
    · exact h.elim
  · rename_i d b
    obtain ⟨y', z', rfl, rb, rc⟩ : ∃ y' z', xs = [y', z'] ∧ RV X.K W (.d d) y' ∧ RV X.K W b z' := by
      cases ras with
      | cons h t => cases t with
        | cons h2 t => cases t; exact ⟨_, _, rfl, h, h2⟩
    cases rxs with
    | cons r1 rt =>
      cases rt with
      | cons r2 rt =>
        cases rt
        split at h
        · rename_i n
          obtain ⟨hn, ex⟩ := id ra
          subst ex
          cases (show v = Value.ref _ from rx)
          split at h
          · rename_i kvs es
            split at h
            · rename_i k ek
              obtain ⟨_, ho, h2, kvs', rfl, r⟩ := sr.at_ n _ es (fun z => by cases z)
              have ey := key_v rb ek
              subst ey
              refine d_get2 (by omega) I (DGet.k h2) r1 r2 fun w' s' I' rw' => ⟨_, H, I', rw', Run.now sr h ?_⟩
              rcases lookV_at (k := k) r with ⟨e1, e2⟩ | ⟨_, _, e1, e2, rv⟩
              · rw [e1, e2]; exact rc
              · rw [e1, e2]; exact rv
            · exact h.elim
          · rename_i m kvs es
            split at h
            · rename_i ks ek
              split at h
              · rename_i hc'
                obtain ⟨xs', vs, r, h2, rv, D, hd, hl⟩ := dd_at hw I sr es hc'.1
                obtain ⟨a, ey, eu, hk, hz⟩ := key_at I sr rb r1 ek ⟨ks, rfl⟩ hc'.2
                subst eu
                refine call_meetsIn PySem.F.slot_dict_get D.typeIs PySem.F.entry_dict_get (PySem.F.args_dict_get_3 _ _ _) (meetsH_dict_get_default (nestedKind X.prog X.w) _ a hd _) ⟨by show X.A.in1.units + 8 < cLine; simp only [Around.in1_units]; omega, _, _, hk, D, ?_⟩
                rcases lookN_at (k := .tup ks) r with ⟨e1, e2⟩ | ⟨b1, w1, e1, e2, r5⟩ <;> rcases look_at (k := .tup ks) rv with ⟨e3, e4⟩ | ⟨w2, p, e3, e4, r6⟩
                · rw [e4]
                  rw [e1] at h
                  exact ⟨z', H, I.tok _, r2, Run.now sr h rc⟩
                · rw [e2] at e3; cases e3
                · rw [e2] at e3; cases e3
                · rw [e2] at e3; cases e3
                  rw [e4]
                  rw [e1] at h
                  exact ⟨w1, H, I.tok _, r6, Run.now sr h r5⟩
              · exact h.elim
            · exact h.elim
          · exact h.elim
        · exact h.elim
  · rename_i d b
    obtain ⟨y', z', rfl, rb, rc⟩ : ∃ y' z', xs = [y', z'] ∧ RV X.K W (.d d) y' ∧ RV X.K W b z' := by
      cases ras with
      | cons h t => cases t with
        | cons h2 t => cases t; exact ⟨_, _, rfl, h, h2⟩
    cases rxs with
    | cons r1 rt =>
      cases rt with
      | cons r2 rt =>
        cases rt
        split at h
        · rename_i n
          obtain ⟨hn, ex⟩ := id ra
          subst ex
          cases (show v = Value.ref _ from rx)
          split at h
          · rename_i kvs es
            split at h
            · rename_i k ek
              split at h
              · rename_i hl
                obtain ⟨_, ho, h2, kvs', rfl, r⟩ := sr.at_ n _ es (fun z => by cases z)
                have ey := key_v rb ek
                subst ey
                refine d_setd I h2 r1 r2 (by rw [← Paired.length r]; exact hl) (fun w e w' s' I' rw' => ?_) fun e w' s' I' rw' => ?_
                · rcases lookV_at (k := k) r with ⟨e1, e2⟩ | ⟨_, _, e1, e2, rv⟩
                  · rw [e2] at e; cases e
                  · rw [e2] at e; cases e
                    rw [e1] at h
                    exact ⟨_, H, I', rw', Run.now sr h rv⟩
                · rcases lookV_at (k := k) r with ⟨e1, e2⟩ | ⟨_, _, e1, e2, rv⟩
                  · rw [e1] at h
                    obtain ⟨t, s2⟩ := sr.write (o' := .dk (putL kvs k b)) (ho := .dK (putK kvs' k z')) es (fun z => by cases z) (fun z => by cases z) ⟨_, rfl, putL_rel rc r⟩
                    exact ⟨_, _, I', rw', h _ _ _ t s2 rc⟩
                  · rw [e2] at e; cases e
              · exact h.elim
            · exact h.elim
          · exact h.elim
        · exact h.elim
  · exact h.elim
end
end DL

namespace DL
open PySem PySem.Spec PyProof.Rows L2
inductive Bi | len | int | str | list (m : Bool) | tuple | all | any | max2 | min2 | ord | sum | x (b : Bx)
def Bi.name : Bi → Str
  | .len => "len" | .int => "int" | .str => "str" | .list _ => "list" | .tuple => "tuple" | .all => "all" | .any => "any" | .max2 => "max" | .min2 => "min" | .ord => "ord" | .sum => "sum" | .x b => b.name
def Bi.val : Bi → Value
  | .len => .builtin "len" | .int => .type "int" | .str => .type "str" | .list _ => .type "list" | .tuple => .type "tuple" | .all => .builtin "all" | .any => .builtin "any" | .max2 => .builtin "max" | .min2 => .builtin "min" | .ord => .builtin "ord" | .sum => .builtin "sum" | .x b => b.val
def lenV (S : Store) : Vl → Option Int
  | .d (.str z) => if z.length ≤ sizeLine then some z.length else none
  | .d (.list xs) => some xs.length
  | .d (.tuple xs) => some xs.length
  | .scr ns => some ns.length
  | .loc n => match S[n]? with
    | some (.lst xs) => some xs.length
    | some (.dk kvs) => some kvs.length
    | _ => none
  | _ => none
noncomputable def biV (b : Bi) (as : List Vl) : M Vl := fun S =>
  match b, as with
  | .len, [a] => ofO ((lenV S a).map fun n => .d (.int n)) S
  | .int, [.d (.int i)] => .ok (.d (.int i)) S
  | .int, [.d (.bool b)] => .ok (.d (.int (if b then 1 else 0))) S
  | .str, [.d (.int i)] => if i.natAbs.log2 < 1920 then .ok (.d (.str (toString i))) S else .bad
  | .list m, [a] => (match rdL S a, a with
    | some xs, _ => newL m xs S
    | none, .d (.tuple ds) => newL m (ds.map .d) S
    | none, _ => .bad)
  | .tuple, [a] => ofO ((seqD S a).map fun ds => .d (.tuple ds)) S
  | .all, [a] => (match (rdL S a).bind pds with
    | some ds => ofO ((dBls ds).map fun bs => .d (.bool (bs.all id))) S
    | none => .bad)
  | .any, [a] => (match (rdL S a).bind pds with
    | some ds => ofO ((dBls ds).map fun bs => .d (.bool (bs.any id))) S
    | none => .bad)
  | .sum, [a] => (match (rdL S a).bind pds with
    | some ds => ofO ((dInts ds).map fun bs => .d (.int bs.sum)) S
    | none => .bad)
  | .max2, [.d (.int i), .d (.int j)] => .ok (.d (.int (if j > i then j else i))) S
  | .min2, [.d (.int i), .d (.int j)] => .ok (.d (.int (if j < i then j else i))) S
  | .ord, [.d (.str z)] => if z.length = 1 then .ok (.d (.int (z.cps.getD 0 0 : Nat))) S else .bad
  | .x b, [a] => bxV b a S
  | _, _ => .bad
theorem strOk_num (i : Int) : PyData.strOk (toString i : String) = true := by
  rw [strOk_iff]
  intro c hc
  by_cases h : c < 0x110000
  · exact h
  · exact absurd hc (int_text_free' c ⟨by omega, .inr (by omega)⟩ i)
section
variable {X : Cx} {C : Ctx} {Ex : XD}
theorem run_of {K : PySem.W.Frag} {α : Type} {W : Wd} {S : Store} {H : Hp} {Q : V → Hp → Prop} {o : Option α} {f : α → Vl} (h : Run K C Ex (RV K) (ofO (o.map f) S) W S H Q) : ∃ c, o = some c ∧ Run K C Ex (RV K) (.ok (f c) S) W S H Q := by
  cases o with
  | none => exact h.elim
  | some c => exact ⟨c, rfl, h⟩
theorem listD_at {K : PySem.W.Frag} {W : Wd} {S : Store} {H : Hp} {v : Vl} {x : V} {ds : List PyData} (s : SR K C W S H) (r : RV K W v x) (e : (rdL S v).bind pds = some ds) :
    ∃ p vs, x = .ref p ∧ SqL K H p vs ∧ RVs K W (ds.map .d) vs := by
  cases q : rdL S v with
  | none => rw [q] at e; cases e
  | some xs =>
    rw [q] at e
    have e : pds xs = some ds := e
    obtain ⟨p, vs, h1, h2, h3⟩ := rdL_at s r q
    rw [pds_eq e] at h3
    exact ⟨p, vs, h1, h2, h3⟩
theorem rvs1 {K : PySem.W.Frag} {W : Wd} {a : Vl} {xs : List V} (r : RVs K W [a] xs) : ∃ x, xs = [x] ∧ RV K W a x := by
  cases r with
  | cons h t => cases t; exact ⟨_, rfl, h⟩
theorem rvs2 {K : PySem.W.Frag} {W : Wd} {a b : Vl} {xs : List V} (r : RVs K W [a, b] xs) : ∃ x y, xs = [x, y] ∧ RV K W a x ∧ RV K W b y := by
  cases r with
  | cons h t =>
    obtain ⟨y, rfl, h2⟩ := rvs1 t
    exact ⟨_, _, rfl, h, h2⟩
theorem CallR.one {f : Value} {g : List Vl → M Vl} (h0 : ∀ as S, (∀ a, as ≠ [a]) → g as S = .bad)
    (h1 : ∀ (pins : List (Addr × Obj)) (s : Shared) (σ : L2.St) (H : Hp) (x : V) (us : List Value) (Q : VK) (W : Wd) (S : Store) (a : Vl), Inv X pins σ H s → Vals [x] us → SR X.K C W S H → RV X.K W a x → Run X.K C Ex (RV X.K) (g [a] S) W S H Q →
      wpAny (model X.prog X.w) X.A (call f us) (EP X pins σ Q) X.xe s) : CallR X f (rN X.K C Ex g) := by
  intro pins s σ H xs us Q I r h
  obtain ⟨W, S, as, sr, ra, h⟩ := h
  by_cases e : ∃ a, as = [a]
  · obtain ⟨a, rfl⟩ := e
    obtain ⟨x, rfl, ra1⟩ := rvs1 ra
    exact h1 pins s σ H x us Q W S a I r sr ra1 h
  · rw [h0 as S fun a z => e ⟨a, z⟩] at h
    exact False.elim h
theorem CallR.two {f : Value} {g : List Vl → M Vl} (h0 : ∀ as S, (∀ a b, as ≠ [a, b]) → g as S = .bad)
    (h1 : ∀ (pins : List (Addr × Obj)) (s : Shared) (σ : L2.St) (H : Hp) (x y : V) (us : List Value) (Q : VK) (W : Wd) (S : Store) (a b : Vl), Inv X pins σ H s → Vals [x, y] us → SR X.K C W S H → RV X.K W a x → RV X.K W b y → Run X.K C Ex (RV X.K) (g [a, b] S) W S H Q →
      wpAny (model X.prog X.w) X.A (call f us) (EP X pins σ Q) X.xe s) : CallR X f (rN X.K C Ex g) := by
  intro pins s σ H xs us Q I r h
  obtain ⟨W, S, as, sr, ra, h⟩ := h
  by_cases e : ∃ a b, as = [a, b]
  · obtain ⟨a, b, rfl⟩ := e
    obtain ⟨x, y, rfl, ra1, ra2⟩ := rvs2 ra
    exact h1 pins s σ H x y us Q W S a b I r sr ra1 ra2 h
  · rw [h0 as S fun a b z => e ⟨a, b, z⟩] at h
    exact False.elim h
theorem no1 {as : List Vl} (h : ∀ a, as ≠ [a]) : as = [] ∨ ∃ a b r, as = a :: b :: r := by
  cases as with
  | nil => exact .inl rfl
  | cons a r =>
    cases r with
    | nil => exact absurd rfl (h a)
    | cons b r => exact .inr ⟨a, b, r, rfl⟩
theorem no2 {as : List Vl} (h : ∀ a b, as ≠ [a, b]) : as = [] ∨ (∃ a, as = [a]) ∨ ∃ a b c r, as = a :: b :: c :: r := by
  cases as with
  | nil => exact .inl rfl
  | cons a r =>
    cases r with
    | nil => exact .inr (.inl ⟨a, rfl⟩)
    | cons b r =>
      cases r with
      | nil => exact absurd rfl (h a b)
      | cons c r => exact .inr (.inr ⟨a, b, c, r, rfl⟩)
theorem bi1 {b : Bi} (hb : b ≠ .max2 ∧ b ≠ .min2) : ∀ as S, (∀ a, as ≠ [a]) → biV b as S = .bad := fun as S h => by
  rcases no1 h with rfl | ⟨a, c, r, rfl⟩
  · cases b <;> rfl
  · cases b <;> first | rfl | exact absurd rfl hb.1 | exact absurd rfl hb.2 | (rcases a with (_ | _ | _ | _ | _ | _ | _) | _ | _ <;> rfl)
theorem cr_len : CallR X (.builtin "len") (rN X.K C Ex (biV .len)) := by
  refine CallR.one (bi1 ⟨nofun, nofun⟩) fun pins s σ H x us Q W S a I r sr ra h => ?_
  have h : Run X.K C Ex (RV X.K) (ofO ((lenV S a).map fun n => Vl.d (.int n)) S) W S H Q := h
  obtain ⟨n, e, h⟩ := run_of h
  have q := Run.now sr h (int_rv n)
  cases a with
  | scr ns =>
    cases e
    obtain ⟨p, ex, sq⟩ := ra
    subst ex
    rw [show (ns.length : Int) = (ns.map V.int).length by rw [List.length_map]] at q
    exact call_len_seq pins s σ H _ us Q I r ⟨_, _, rfl, .inl (sr.sub.seq sq), q⟩
  | loc m =>
    obtain ⟨hlt, ex⟩ := ra
    subst ex
    cases qs : S[m]? with
    | none => simp only [lenV, qs] at e; cases e
    | some o =>
      cases o with
      | lst xs =>
        simp only [lenV, qs] at e
        cases e
        obtain ⟨_, ho, h2, vs, rfl, r2⟩ := sr.at_ m _ qs (fun z => by cases z)
        rw [rvs_len r2] at q
        exact call_len_seq pins s σ H _ us Q I r ⟨_, vs, rfl, .inl (.inl (.inl h2)), q⟩
      | dk kvs =>
        simp only [lenV, qs] at e
        cases e
        obtain ⟨_, ho, h2, vs, rfl, r2⟩ := sr.at_ m _ qs (fun z => by cases z)
        rw [show kvs.length = vs.length from Paired.length r2] at q
        exact call_lenD pins s σ H _ us Q I r ⟨_, vs, rfl, h2, q⟩
      | _ => simp only [lenV, qs] at e; cases e
  | d y =>
    cases y with
    | str z =>
      have e : (if z.length ≤ sizeLine then some (z.length : Int) else none) = some n := e
      by_cases hz : z.length ≤ sizeLine
      · rw [if_pos hz] at e; cases e
        have ex := rv_str ra
        subst ex
        exact call_len pins s σ H _ us Q I r ⟨_, _, rfl, ⟨hz, rfl⟩, q⟩
      · rw [if_neg hz] at e; cases e
    | list xs =>
      cases e
      obtain ⟨p, vs, rfl, sq, r2⟩ := rdL_at sr ra rfl
      rw [show (xs.length : Int) = vs.length by rw [len_map r2]] at q
      exact call_len_seq pins s σ H _ us Q I r ⟨_, vs, rfl, .inl sq, q⟩
    | tuple xs =>
      cases e
      obtain ⟨p, vs, rfl, sq, r2⟩ := tup_at sr ra
      rw [show (xs.length : Int) = vs.length by rw [len_map r2]] at q
      exact call_len_seq pins s σ H _ us Q I r ⟨_, vs, rfl, .inr sq, q⟩
    | _ => cases e
theorem cr_int : CallR X (.type "int") (rN X.K C Ex (biV .int)) := by
  refine CallR.one (bi1 ⟨nofun, nofun⟩) fun pins s σ H x us Q W S a I r sr ra h => ?_
  cases a with
  | loc m => exact False.elim h
  | scr m => exact False.elim h
  | d y =>
    cases y with
    | int i =>
      have ex := rv_int ra
      subst ex
      exact call_int1 pins s σ H _ us Q I r (.inl ⟨i, rfl, Run.now sr h (int_rv i)⟩)
    | bool b =>
      have ex := rv_bl ra
      subst ex
      exact call_int1 pins s σ H _ us Q I r (.inr ⟨b, rfl, Run.now sr h (int_rv _)⟩)
    | _ => exact False.elim h
theorem cr_str : CallR X (.type "str") (rN X.K C Ex (biV .str)) := by
  refine CallR.one (bi1 ⟨nofun, nofun⟩) fun pins s σ H x us Q W S a I r sr ra h => ?_
  cases a with
  | loc m => exact False.elim h
  | scr m => exact False.elim h
  | d y =>
    cases y with
    | int i =>
      have ex := rv_int ra
      subst ex
      have h : Run X.K C Ex (RV X.K) (if i.natAbs.log2 < 1920 then .ok (Vl.d (.str (toString i))) S else .bad) W S H Q := h
      by_cases hz : i.natAbs.log2 < 1920
      · rw [if_pos hz] at h
        exact call_str_int pins s σ H _ us Q I r ⟨i, rfl, hz, Run.now sr h (str_rv (strOk_num i))⟩
      · rw [if_neg hz] at h; exact False.elim h
    | _ => exact False.elim h
theorem cr_list (m : Bool) : CallR X (.type "list") (rN X.K C Ex (biV (.list m))) := by
  refine CallR.one (bi1 ⟨nofun, nofun⟩) fun pins s σ H x us Q W S a I r sr ra h => ?_
  cases e : rdL S a with
  | some xs =>
    simp only [biV, e] at h
    obtain ⟨p, vs, rfl, sq, r2⟩ := rdL_at sr ra e
    exact call_list_of pins s σ H _ us Q I r ⟨p, vs, rfl, .inl sq, (newL_run sr r2 h).2⟩
  | none =>
    simp only [biV, e] at h
    cases a with
    | loc n => exact False.elim h
    | scr n => exact False.elim h
    | d y =>
      cases y with
      | tuple ds =>
        obtain ⟨p, vs, rfl, sq, r2⟩ := tup_at sr ra
        exact call_list_of pins s σ H _ us Q I r ⟨p, vs, rfl, .inr sq, (newL_run sr r2 h).2⟩
      | _ => exact False.elim h
theorem cr_tuple : CallR X (.type "tuple") (rN X.K C Ex (biV .tuple)) := by
  refine CallR.one (bi1 ⟨nofun, nofun⟩) fun pins s σ H x us Q W S a I r sr ra h => ?_
  have h : Run X.K C Ex (RV X.K) (ofO ((seqD S a).map fun ds => Vl.d (.tuple ds)) S) W S H Q := h
  obtain ⟨ds, e, h⟩ := run_of h
  by_cases ht : ∃ xs, a = .d (.tuple xs)
  · obtain ⟨xs, rfl⟩ := ht
    cases e
    obtain ⟨p, vs, rfl, sq, r2⟩ := rv_tup ra
    exact call_tuple_of pins s σ H _ us Q I r ⟨p, vs, rfl, .inr ⟨same_tup sr.sub sq, (Run.tup sr r2 h).1 p sq⟩⟩
  · have e : (rdL S a).bind pds = some ds := by
      cases a with
      | loc n => exact e
      | scr n => exact e
      | d y => cases y <;> first | exact e | exact absurd ⟨_, rfl⟩ ht
    obtain ⟨p, vs, rfl, sq, r2⟩ := listD_at sr ra e
    exact call_tuple_of pins s σ H _ us Q I r ⟨p, vs, rfl, .inl ⟨sq, (Run.tup sr r2 h).2⟩⟩
theorem cr_allV (hc : X.calm = true) : CallR X (.builtin "all") (rN X.K C Ex (biV .all)) := by
  refine CallR.one (bi1 ⟨nofun, nofun⟩) fun pins s σ H x us Q W S a I r sr ra h => ?_
  cases e : (rdL S a).bind pds with
  | none => simp only [biV, e] at h; exact False.elim h
  | some ds =>
    simp only [biV, e] at h
    obtain ⟨bs, eb, h⟩ := run_of h
    obtain ⟨p, vs, rfl, sq, r2⟩ := listD_at sr ra e
    rw [dBls_eq eb] at r2
    rw [rvs_bls r2] at sq
    exact cr_all hc pins s σ H _ us Q I r ⟨p, bs, rfl, sq, Run.now sr h (bl_rv _)⟩
theorem cr_anyV (hc : X.calm = true) : CallR X (.builtin "any") (rN X.K C Ex (biV .any)) := by
  refine CallR.one (bi1 ⟨nofun, nofun⟩) fun pins s σ H x us Q W S a I r sr ra h => ?_
  cases e : (rdL S a).bind pds with
  | none => simp only [biV, e] at h; exact False.elim h
  | some ds =>
    simp only [biV, e] at h
    obtain ⟨bs, eb, h⟩ := run_of h
    obtain ⟨p, vs, rfl, sq, r2⟩ := listD_at sr ra e
    rw [dBls_eq eb] at r2
    rw [rvs_bls r2] at sq
    exact cr_any hc pins s σ H _ us Q I r ⟨p, bs, rfl, sq, Run.now sr h (bl_rv _)⟩
theorem cr_sumV (hc : X.calm = true) : CallR X (.builtin "sum") (rN X.K C Ex (biV .sum)) := by
  refine CallR.one (bi1 ⟨nofun, nofun⟩) fun pins s σ H x us Q W S a I r sr ra h => ?_
  cases e : (rdL S a).bind pds with
  | none => simp only [biV, e] at h; exact False.elim h
  | some ds =>
    simp only [biV, e] at h
    obtain ⟨bs, eb, h⟩ := run_of h
    obtain ⟨p, vs, rfl, sq, r2⟩ := listD_at sr ra e
    rw [dInts_eq eb] at r2
    rw [rvs_ints r2] at sq
    exact cr_sum hc pins s σ H _ us Q I r ⟨p, bs, rfl, sq, Run.now sr h (int_rv _)⟩
theorem cr_ord : CallR X (.builtin "ord") (rN X.K C Ex (biV .ord)) := by
  refine CallR.one (bi1 ⟨nofun, nofun⟩) fun pins s σ H x us Q W S a I r sr ra h => ?_
  cases a with
  | loc m => exact False.elim h
  | scr m => exact False.elim h
  | d y =>
    cases y with
    | str z =>
      have ex := rv_str ra
      subst ex
      have h : Run X.K C Ex (RV X.K) (if z.length = 1 then .ok (Vl.d (.int (z.cps.getD 0 0 : Nat))) S else .bad) W S H Q := h
      by_cases hz : z.length = 1
      · rw [if_pos hz] at h
        exact call_ord pins s σ H _ us Q I r ⟨z, rfl, hz, Run.now sr h (int_rv _)⟩
      · rw [if_neg hz] at h; exact False.elim h
    | _ => exact False.elim h
theorem cr_max (hc : X.calm = true) : CallR X (.builtin "max") (rN X.K C Ex (biV .max2)) := by
  refine CallR.two (fun as S h => ?_) fun pins s σ H x y us Q W S a b I r sr ra rb h => ?_
  · rcases no2 h with rfl | ⟨a, rfl⟩ | ⟨a, b, c, r, rfl⟩
    · rfl
    · rcases a with (_ | _ | _ | _ | _ | _ | _) | _ | _ <;> rfl
    · rcases a with (_ | _ | _ | _ | _ | _ | _) | _ | _ <;> first | rfl | (rcases b with (_ | _ | _ | _ | _ | _ | _) | _ | _ <;> rfl)
  · rcases a with (_ | _ | i | _ | _ | _ | _) | _ | _ <;> first | exact False.elim h | skip
    rcases b with (_ | _ | j | _ | _ | _ | _) | _ | _ <;> first | exact False.elim h | skip
    have ex := rv_int ra
    have ey := rv_int rb
    subst ex; subst ey
    exact call_max2 hc pins s σ H _ us Q I r ⟨i, j, rfl, Run.now sr h (int_rv _)⟩
theorem cr_min (hc : X.calm = true) : CallR X (.builtin "min") (rN X.K C Ex (biV .min2)) := by
  refine CallR.two (fun as S h => ?_) fun pins s σ H x y us Q W S a b I r sr ra rb h => ?_
  · rcases no2 h with rfl | ⟨a, rfl⟩ | ⟨a, b, c, r, rfl⟩
    · rfl
    · rcases a with (_ | _ | _ | _ | _ | _ | _) | _ | _ <;> rfl
    · rcases a with (_ | _ | _ | _ | _ | _ | _) | _ | _ <;> first | rfl | (rcases b with (_ | _ | _ | _ | _ | _ | _) | _ | _ <;> rfl)
  · rcases a with (_ | _ | i | _ | _ | _ | _) | _ | _ <;> first | exact False.elim h | skip
    rcases b with (_ | _ | j | _ | _ | _ | _) | _ | _ <;> first | exact False.elim h | skip
    have ex := rv_int ra
    have ey := rv_int rb
    subst ex; subst ey
    exact call_min2 hc pins s σ H _ us Q I r ⟨i, j, rfl, Run.now sr h (int_rv _)⟩
theorem crBi (hw : C.w = X.w) (hc : X.calm = true) (hu : X.A.units + 66 < cLine) (b : Bi) : CallR X b.val (rN X.K C Ex (biV b)) := by
  cases b with
  | len => exact cr_len
  | int => exact cr_int
  | str => exact cr_str
  | list m => exact cr_list m
  | tuple => exact cr_tuple
  | all => exact cr_allV hc
  | any => exact cr_anyV hc
  | max2 => exact cr_max hc
  | min2 => exact cr_min hc
  | ord => exact cr_ord
  | sum => exact cr_sumV hc
  | x b =>
    refine CallR.weak (crBx (Ex := Ex) hw hc hu b) fun xs H Q h => ?_
    obtain ⟨W, S, as, sr, ra, h⟩ := h
    refine ⟨W, S, as, sr, ra, ?_⟩
    match as, h with
    | [a], h => exact h
    | [], h => exact h.elim
    | _ :: _ :: _, h => exact h.elim
end
end DL

namespace DL
open PySem PySem.Spec PyProof.Rows L2

/-! ### methods of built-in types -/
inductive Mt | append | extend | pop | popAt | reverse | clear | insert | join | x (m : Mx)
def Mt.ty : Mt → String
  | .join => "str"
  | .x m => m.ty
  | _ => "list"
def Mt.name : Mt → Str
  | .append => "append" | .extend => "extend" | .pop => "pop" | .popAt => "pop" | .reverse => "reverse" | .clear => "clear" | .insert => "insert" | .join => "join" | .x m => m.name
def Mt.id : Mt → String
  | .append => "list.append" | .extend => "list.extend" | .pop => "list.pop" | .popAt => "list.pop" | .reverse => "list.reverse" | .clear => "list.clear" | .insert => "list.insert" | .join => "str.join" | .x m => m.id
def isTy (S : Store) (T : String) : Vl → Bool
  | .d (.str _) => T == "str"
  | .d (.list _) => T == "list"
  | .loc n => match S[n]? with
    | some (.lst _) => T == "list"
    | some (.dk _) => T == "dict"
    | some (.dd m _) => T == "dict" && m == n
    | _ => false
  | _ => false
/-- a mutable list's method -/
def onL (S : Store) (a : Vl) (f : Nat → List Vl → Rs Vl) : Rs Vl := match a with
  | .loc n => match S[n]? with
    | some (.lst xs) => f n xs
    | _ => .bad
  | _ => .bad
def mtV (m : Mt) (a : Vl) (as : List Vl) : M Vl := fun S =>
  match m, as with
  | .append, [x] => onL S a fun n xs => if xs.length < sizeLine then .ok (.d .none) (S.set n (.lst (xs ++ [x]))) else .bad
  | .extend, [x] => onL S a fun n xs => (match x with
    | .d (.list ys) => if xs.length + ys.length ≤ sizeLine then .ok (.d .none) (S.set n (.lst (xs ++ ys.map .d))) else .bad
    | .loc k => (match S[k]? with
      | some (.lst ys) => if k ≠ n ∧ xs.length + ys.length ≤ sizeLine then .ok (.d .none) (S.set n (.lst (xs ++ ys))) else .bad
      | _ => .bad)
    | _ => .bad)
  | .pop, [] => onL S a fun n xs => (match xs[xs.length - 1]? with
    | some y => .ok y (S.set n (.lst xs.dropLast))
    | none => .bad)
  | .popAt, [.d (.int i)] => onL S a fun n xs => (match (if -(2 ^ 63) ≤ i ∧ i < 2 ^ 63 then seqIndex? i xs.length else none) with
    | some k => (match xs[k]? with
      | some y => .ok y (S.set n (.lst (xs.eraseIdx k)))
      | none => .bad)
    | none => .bad)
  | .reverse, [] => onL S a fun n xs => .ok (.d .none) (S.set n (.lst xs.reverse))
  | .clear, [] => onL S a fun n xs => .ok (.d .none) (S.set n (.lst []))
  | .insert, [.d (.int i), x] => onL S a fun n xs => if xs.length < sizeLine ∧ 0 ≤ i ∧ i < 2 ^ 63 then .ok (.d .none) (S.set n (.lst (xs.take i.toNat ++ [x] ++ xs.drop i.toNat))) else .bad
  | .join, [x] => (match a, seqD S x with
    | .d (.str z), some ds => (match dStrs ds with
      | some ys => if (ys.map (·.length)).sum + ys.length * z.length ≤ 16777216 then .ok (.d (.str (Txt.join z ys))) S else .bad
      | none => .bad)
    | _, _ => .bad)
  | .x k, as => mxV k a as S
  | _, _ => .bad
theorem strOk_join {z : Str} (hz : PyData.strOk z = true) {ys : List Str} (h : ∀ y ∈ ys, PyData.strOk y = true) : PyData.strOk (Txt.join z ys) = true := by
  have e : Txt.join z ys = Str.join z ys := PySem.StrLaws.glued_eq_join z ys
  rw [e]
  have go : ∀ ys : List Str, (∀ y ∈ ys, PyData.strOk y = true) → PyData.strOk (Str.join z ys) = true := by
    intro ys
    induction ys with
    | nil => intro _; exact (strOk_iff.mpr fun c hc => by simp [Str.join, Str.empty] at hc)
    | cons a r ih =>
      intro h
      cases r with
      | nil => exact h a (List.mem_singleton.mpr rfl)
      | cons b r => exact strOk_app (strOk_app (h a List.mem_cons_self) hz) (ih fun y hy => h y (List.mem_cons_of_mem _ hy))
  exact go ys h
section
variable {X : Cx} {C : Ctx} {Ex : XD}
theorem onL_run {K : PySem.W.Frag} {W : Wd} {S : Store} {H : Hp} {Q : V → Hp → Prop} {a : Vl} {x : V} {f : Nat → List Vl → Rs Vl} (sr : SR K C W S H) (ra : RV K W a x) (h : Run K C Ex (RV K) (onL S a f) W S H Q) :
    ∃ n xs vs, a = .loc n ∧ S[n]? = some (.lst xs) ∧ x = .ref (W.f n) ∧ H (W.f n) = some (.lst vs) ∧ RVs K W xs vs ∧ Run K C Ex (RV K) (f n xs) W S H Q := by
  cases a with
  | d y => exact False.elim h
  | scr y => exact False.elim h
  | loc n =>
    obtain ⟨_, ex⟩ := ra
    cases q : S[n]? with
    | none => simp only [onL, q] at h; exact False.elim h
    | some o =>
      cases o with
      | lst xs =>
        simp only [onL, q] at h
        obtain ⟨_, ho, h2, vs, rfl, r⟩ := sr.at_ n _ q (fun z => by cases z)
        exact ⟨n, xs, vs, rfl, q, ex, h2, r, h⟩
      | _ => simp only [onL, q] at h; exact False.elim h
/-- behind a change of a mutable list -/
theorem Run.set {K : PySem.W.Frag} {W : Wd} {S : Store} {H : Hp} {Q : V → Hp → Prop} {n : Nat} {xs ys : List Vl} {vs : List V} {a : Vl} {v : V} (sr : SR K C W S H) (e : S[n]? = some (.lst xs)) (r : RVs K W ys vs) (ra : RV K W a v)
    (h : Run K C Ex (RV K) (.ok a (S.set n (.lst ys))) W S H Q) : Q v (upd H (W.f n) (.lst vs)) := by
  obtain ⟨t, s'⟩ := sr.write (o' := .lst ys) (ho := .lst vs) e (fun z => by cases z) (fun z => by cases z) ⟨vs, rfl, r⟩
  exact h _ _ _ t s' ra
theorem rvs_one {K : PySem.W.Frag} {W : Wd} {a : Vl} {x : V} (r : RV K W a x) : RVs K W [a] [x] := .cons r .nil
theorem rvs_reverse {K : PySem.W.Frag} {W : Wd} : ∀ {xs : List Vl} {vs : List V}, RVs K W xs vs → RVs K W xs.reverse vs.reverse
  | _, _, .nil => .nil
  | _, _, .cons h t => by
    rw [List.reverse_cons, List.reverse_cons]
    exact RVs.append (rvs_reverse t) (rvs_one h)
theorem rvs_dropLast {K : PySem.W.Frag} {W : Wd} {xs : List Vl} {vs : List V} (r : RVs K W xs vs) : RVs K W xs.dropLast vs.dropLast := by
  rw [List.dropLast_eq_take, List.dropLast_eq_take, rvs_len r]
  exact RVs.take _ r
theorem rvs_eraseIdx {K : PySem.W.Frag} {W : Wd} : ∀ {xs : List Vl} {vs : List V} (k : Nat), RVs K W xs vs → RVs K W (xs.eraseIdx k) (vs.eraseIdx k)
  | _, _, _, .nil => by simp; exact .nil
  | _, _, 0, .cons _ t => t
  | _, _, k + 1, .cons h t => .cons h (rvs_eraseIdx k t)
theorem mtAll (hw : C.w = X.w) (hc : X.calm = true) (hu : X.A.units + 66 < cLine) (m : Mt) : MtR X m.id (rM X.K C Ex (mtV m)) := by
  intro pins s σ H x xs v us Q I rx rxs h
  obtain ⟨W, S, a, as, sr, ra, ras, h⟩ := h
  cases m with
  | x k => exact mxAll hw hc hu k pins s σ H x xs v us Q I rx rxs ⟨W, S, a, as, sr, ra, ras, h⟩
  | append =>
    match as, ras, h with
    | [b], ras, h =>
      obtain ⟨y, ey, rb⟩ := rvs1 ras
      subst ey
      have h : Run X.K C Ex (RV X.K) (onL S a fun n xs => if xs.length < sizeLine then .ok (.d .none) (S.set n (.lst (xs ++ [b]))) else .bad) W S H Q := h
      obtain ⟨n, ys, vs, ea, es, ex, h2, r, h⟩ := onL_run sr ra h
      subst ex
      by_cases hl : ys.length < sizeLine
      · rw [if_pos hl] at h
        exact mt_append pins s σ H _ _ v us Q I rx rxs ⟨_, vs, y, rfl, rfl, h2, by rw [← rvs_len r]; exact hl, Run.set sr es (RVs.append r (rvs_one rb)) non_rv h⟩
      · rw [if_neg hl] at h; exact False.elim h
    | [], _, h => exact False.elim h
    | _ :: _ :: _, _, h => exact False.elim h
  | extend =>
    match as, ras, h with
    | [b], ras, h =>
      obtain ⟨y, ey, rb⟩ := rvs1 ras
      subst ey
      obtain ⟨n, ys, vs, ea, es, ex, h2, r, h⟩ := onL_run sr ra (show Run X.K C Ex (RV X.K) (onL S a _) W S H Q from h)
      subst ex
      cases b with
      | d z =>
        cases z with
        | list zs =>
          have h : Run X.K C Ex (RV X.K) (if ys.length + zs.length ≤ sizeLine then .ok (Vl.d .none) (S.set n (.lst (ys ++ zs.map .d))) else .bad) W S H Q := h
          by_cases hl : ys.length + zs.length ≤ sizeLine
          · rw [if_pos hl] at h
            obtain ⟨hd, hc⟩ := id rb
            cases hd with
            | lst hs ha =>
              have hr := dp_rvs ha (by simpa [PyData.canLay0] using hc)
              exact mt_extend pins s σ H _ _ v us Q I rx rxs ⟨_, _, vs, _, rfl, rfl, h2, sr.sub _ _ hs, by rw [← rvs_len r, ← len_map hr]; exact hl, Run.set sr es (RVs.append r hr) non_rv h⟩
          · rw [if_neg hl] at h; exact False.elim h
        | _ => exact False.elim h
      | scr k => exact False.elim h
      | loc k =>
        obtain ⟨_, ek⟩ := id rb
        subst ek
        cases q : S[k]? with
        | none => simp only [q] at h; exact False.elim h
        | some o =>
          cases o with
          | lst zs =>
            simp only [q] at h
            by_cases hl : k ≠ n ∧ ys.length + zs.length ≤ sizeLine
            · rw [if_pos hl] at h
              obtain ⟨_, ho, h3, ws, rfl, r3⟩ := sr.at_ k _ q (fun z => by cases z)
              exact mt_extend pins s σ H _ _ v us Q I rx rxs ⟨_, _, vs, ws, rfl, rfl, h2, h3, by rw [← rvs_len r, ← rvs_len r3]; exact hl.2, Run.set sr es (RVs.append r r3) non_rv h⟩
            · rw [if_neg hl] at h; exact False.elim h
          | _ => simp only [q] at h; exact False.elim h
    | [], _, h => exact False.elim h
    | _ :: _ :: _, _, h => exact False.elim h
  | pop =>
    match as, ras, h with
    | [], ras, h =>
      cases ras
      obtain ⟨n, ys, vs, ea, es, ex, h2, r, h⟩ := onL_run sr ra (show Run X.K C Ex (RV X.K) (onL S a _) W S H Q from h)
      subst ex
      cases q : ys[ys.length - 1]? with
      | none => simp only [q] at h; exact False.elim h
      | some y =>
        simp only [q] at h
        obtain ⟨w, ew, rw'⟩ := Paired.at r q
        exact mt_pop pins s σ H _ _ v us Q I rx rxs ⟨_, vs, w, rfl, rfl, h2, by rw [← rvs_len r]; exact ew, Run.set sr es (rvs_dropLast r) rw' h⟩
    | _ :: _, _, h => exact False.elim h
  | popAt =>
    match as, ras, h with
    | [.d (.int i)], ras, h =>
      obtain ⟨y, ey, rb⟩ := rvs1 ras
      subst ey
      have ey := rv_int rb
      subst ey
      obtain ⟨n, ys, vs, ea, es, ex, h2, r, h⟩ := onL_run sr ra (show Run X.K C Ex (RV X.K) (onL S a _) W S H Q from h)
      subst ex
      by_cases hl : -(2 ^ 63) ≤ i ∧ i < 2 ^ 63
      · rw [if_pos hl] at h
        cases qi : seqIndex? i ys.length with
        | none => simp only [qi] at h; exact False.elim h
        | some k =>
          simp only [qi] at h
          cases q : ys[k]? with
          | none => simp only [q] at h; exact False.elim h
          | some y =>
            simp only [q] at h
            obtain ⟨w, ew, rw'⟩ := Paired.at r q
            exact mt_popAt pins s σ H _ _ v us Q I rx rxs ⟨_, vs, i, k, w, rfl, rfl, h2, hl.1, hl.2, by rw [← rvs_len r]; exact qi, ew, Run.set sr es (rvs_eraseIdx k r) rw' h⟩
      · rw [if_neg hl] at h; exact False.elim h
    | [.d .none], _, h | [.d (.bool _)], _, h | [.d (.str _)], _, h | [.d (.list _)], _, h | [.d (.tuple _)], _, h | [.d (.dict _)], _, h | [.loc _], _, h | [.scr _], _, h => exact False.elim h
    | [], _, h => exact False.elim h
    | a :: _ :: _, _, h => rcases a with (_ | _ | _ | _ | _ | _ | _) | _ | _ <;> exact False.elim h
  | reverse =>
    match as, ras, h with
    | [], ras, h =>
      cases ras
      obtain ⟨n, ys, vs, ea, es, ex, h2, r, h⟩ := onL_run sr ra (show Run X.K C Ex (RV X.K) (onL S a _) W S H Q from h)
      subst ex
      exact mt_reverse pins s σ H _ _ v us Q I rx rxs ⟨_, vs, rfl, rfl, h2, Run.set sr es (rvs_reverse r) non_rv h⟩
    | _ :: _, _, h => exact False.elim h
  | clear =>
    match as, ras, h with
    | [], ras, h =>
      cases ras
      obtain ⟨n, ys, vs, ea, es, ex, h2, r, h⟩ := onL_run sr ra (show Run X.K C Ex (RV X.K) (onL S a _) W S H Q from h)
      subst ex
      exact mt_clear pins s σ H _ _ v us Q I rx rxs ⟨_, vs, rfl, rfl, h2, Run.set sr es .nil non_rv h⟩
    | _ :: _, _, h => exact False.elim h
  | insert =>
    match as, ras, h with
    | [.d (.int i), b], ras, h =>
      obtain ⟨z, y, ey, rb, rc⟩ := rvs2 ras
      subst ey
      have ez := rv_int rb
      subst ez
      obtain ⟨n, ys, vs, ea, es, ex, h2, r, h⟩ := onL_run sr ra (show Run X.K C Ex (RV X.K) (onL S a _) W S H Q from h)
      subst ex
      by_cases hl : ys.length < sizeLine ∧ 0 ≤ i ∧ i < 2 ^ 63
      · rw [if_pos hl] at h
        exact mt_insert pins s σ H _ _ v us Q I rx rxs ⟨_, vs, i, y, rfl, rfl, h2, by rw [← rvs_len r]; exact hl.1, hl.2.1, hl.2.2, Run.set sr es (RVs.append (RVs.append (RVs.take _ r) (rvs_one rc)) (RVs.drop _ r)) non_rv h⟩
      · rw [if_neg hl] at h; exact False.elim h
    | [.d .none, _], _, h | [.d (.bool _), _], _, h | [.d (.str _), _], _, h | [.d (.list _), _], _, h | [.d (.tuple _), _], _, h | [.d (.dict _), _], _, h | [.loc _, _], _, h | [.scr _, _], _, h => exact False.elim h
    | [], _, h => exact False.elim h
    | [a], _, h => rcases a with (_ | _ | _ | _ | _ | _ | _) | _ | _ <;> exact False.elim h
    | a :: _ :: _ :: _, _, h => rcases a with (_ | _ | _ | _ | _ | _ | _) | _ | _ <;> exact False.elim h
  | join =>
    match as, ras, h with
    | [b], ras, h =>
      obtain ⟨y, ey, rb⟩ := rvs1 ras
      subst ey
      rcases a with (_ | _ | _ | z | _ | _ | _) | _ | _ <;> first | exact False.elim h | skip
      cases e : seqD S b with
      | none => simp only [mtV, e] at h; exact False.elim h
      | some ds =>
        simp only [mtV, e] at h
        cases e2 : dStrs ds with
        | none => simp only [e2] at h; exact False.elim h
        | some ys =>
          simp only [e2] at h
          by_cases hl : (ys.map (·.length)).sum + ys.length * z.length ≤ 16777216
          · rw [if_pos hl] at h
            have ex := rv_str ra
            subst ex
            obtain ⟨p, vs, rfl, sq, r2⟩ := seqD_at sr rb e
            rw [dStrs_eq e2] at r2
            obtain ⟨ev, hok⟩ := rvs_strs r2
            rw [ev] at sq
            exact mt_join pins s σ H _ _ v us Q I rx rxs ⟨z, p, ys, rfl, rfl, sq, hl, Run.now sr h (str_rv (strOk_join (rv_strOk ra) hok))⟩
          · rw [if_neg hl] at h; exact False.elim h
    | [], _, h => exact False.elim h
    | _ :: _ :: _, _, h => exact False.elim h
end
end DL

namespace SN
open PySem PySem.Spec PyProof.Rows L2
/-! ### sets of nested keys that hold numbers alone -/
mutual
def numK : NestedKey → Bool
  | .num _ => true
  | .tup ks => numKs ks
  | .none => false
  | .text _ => false
def numKs : List NestedKey → Bool
  | [] => true
  | k :: r => numK k && numKs r
end
section
variable {P : Program} {w : World} {A : Around} {E : Value → Shared → Prop} {s : Shared}
/-- a question about what stands, answered with b -/
def Tells (P : Program) (w : World) (m : Sem Bool) (b : Bool) (s : Shared) : Prop := ∀ (A : Around) (E : Value → Shared → Prop) (Q : Bool → Shared → Prop), Q b s → wpAny (model P w) A m Q E s
theorem tells_pure {b : Bool} : Tells P w (pure b) b s := fun A E Q h => wpAny_pure h
mutual
theorem noCls : ∀ (k : NestedKey) (v : Value) (n : Nat) (s : Shared), NestedIs s.heap k v → k.depth ≤ n → Tells P w (ofAClassStatement n v) false s
  | .none, _, n, s, x, _ => by cases x; cases n <;> exact tells_pure
  | .num i, _, n, s, x, _ => by cases x <;> cases n <;> exact tells_pure
  | .text y, _, n, s, x, _ => by cases x; cases n <;> exact tells_pure
  | .tup ks, _, n, s, x, hn => by
    cases x with
    | @tup b ob vs c _ e1 e2 e3 e4 =>
      simp only [NestedKey.depth] at hn
      cases n with
      | zero => omega
      | succ n =>
        have all := noClss ks vs.toList n s e4 (by omega)
        intro A E Q hq
        have ty : s.TypeIs (.ref b) "tuple" := ⟨ob, e1, e2⟩
        unfold ofAClassStatement
        refine wpAny_bind (wpAny_typeOf ty ?_)
        dsimp only
        have tt : (("tuple" : String) == "tuple") = true := by decide
        simp only [tt, if_true, Bool.not_true, Bool.false_eq_true, if_false]
        try refine wpAny_bind (wpAny_pure ?_)
        try simp only [Bool.not_true, Bool.false_eq_true, if_false]
        show wpAny _ _ (seqItems? (.ref b) >>= _) _ _ s
        refine wpAny_bind (wpAny_seqItems e1 e3 ?_)
        dsimp only
        refine wpAny_bind ?_
        show wpAny _ _ (forIn vs _ _) _ _ s
        rw [← Array.forIn_toList]
        refine wpAny_forIn_list _ (fun rest r s2 => r.1 = none ∧ s2 = s ∧ ∀ v ∈ rest, Tells P w (ofAClassStatement n v) false s) _ ?_ ?_ _ _ ⟨rfl, rfl, all⟩
        · rintro v rest r s2 ⟨hr, rfl, hall⟩
          refine wpAny_bind (hall v List.mem_cons_self _ _ _ ?_)
          simp only [Bool.false_eq_true, if_false]
          exact wpAny_pure ⟨rfl, rfl, fun u hu => hall u (List.mem_cons_of_mem _ hu)⟩
        · rintro ⟨r1, r2⟩ s2 ⟨hr, rfl, _⟩
          simp only at hr
          subst hr
          exact wpAny_pure hq
theorem noClss : ∀ (ks : List NestedKey) (vs : List Value) (n : Nat) (s : Shared), NestedAll s.heap ks vs → NestedKey.depthAll ks ≤ n → ∀ v ∈ vs, Tells P w (ofAClassStatement n v) false s
  | [], _, n, s, x, _, v, hv => by cases x; cases hv
  | k :: ks, _, n, s, x, hn, v, hv => by
    cases x with
    | cons x1 x2 =>
      simp only [NestedKey.depthAll] at hn
      rcases List.mem_cons.mp hv with e | hv
      · rw [e]; exact noCls k _ n s x1 (by omega)
      · exact noClss ks _ n s x2 (by omega) v hv
end
mutual
theorem byVal : ∀ (k : NestedKey) (v : Value) (n : Nat) (s : Shared), NestedIs s.heap k v → k.depth ≤ n → numK k = true → Tells P w (hashByValue n v) true s
  | .none, _, n, s, x, _, c => by cases c
  | .num i, _, n, s, x, _, _ => by cases x <;> cases n <;> exact tells_pure
  | .text y, _, n, s, x, _, c => by cases c
  | .tup ks, _, n, s, x, hn, c => by
    cases x with
    | @tup b ob vs m _ e1 e2 e3 e4 =>
      simp only [NestedKey.depth] at hn
      cases n with
      | zero => omega
      | succ n =>
        have all := byVals ks vs.toList n s e4 (by omega) (by simpa [numK] using c)
        intro A E Q hq
        have ty : s.TypeIs (.ref b) "tuple" := ⟨ob, e1, e2⟩
        unfold hashByValue
        refine wpAny_bind (wpAny_specialOf ty F.slot_tuple_hash.lookup ?_)
        show wpAny _ _ (seqItems? (.ref b) >>= _) _ _ s
        refine wpAny_bind (wpAny_seqItems e1 e3 ?_)
        refine wpAny_bind ?_
        show wpAny _ _ (forIn vs _ _) _ _ s
        rw [← Array.forIn_toList]
        refine wpAny_forIn_list _ (fun rest r s2 => r.1 = none ∧ s2 = s ∧ ∀ v ∈ rest, Tells P w (hashByValue n v) true s) _ ?_ ?_ _ _ ⟨rfl, rfl, all⟩
        · rintro v rest r s2 ⟨hr, rfl, hall⟩
          refine wpAny_bind (hall v List.mem_cons_self _ _ _ ?_)
          simp only [Bool.not_true, Bool.false_eq_true, if_false]
          exact wpAny_pure ⟨rfl, rfl, fun u hu => hall u (List.mem_cons_of_mem _ hu)⟩
        · rintro ⟨r1, r2⟩ s2 ⟨hr, rfl, _⟩
          simp only at hr
          subst hr
          exact wpAny_pure hq
theorem byVals : ∀ (ks : List NestedKey) (vs : List Value) (n : Nat) (s : Shared), NestedAll s.heap ks vs → NestedKey.depthAll ks ≤ n → numKs ks = true → ∀ v ∈ vs, Tells P w (hashByValue n v) true s
  | [], _, n, s, x, _, _, v, hv => by cases x; cases hv
  | k :: ks, _, n, s, x, hn, c, v, hv => by
    cases x with
    | cons x1 x2 =>
      simp only [NestedKey.depthAll] at hn
      simp only [numKs, Bool.and_eq_true] at c
      rcases List.mem_cons.mp hv with e | hv
      · rw [e]; exact byVal k _ n s x1 (by omega) c.1
      · exact byVals ks _ n s x2 (by omega) c.2 v hv
end
/-- the tuple at a is the key k -/
def IsN (h : Heap) (k : NestedKey) (a : Addr) : Prop := NestedIs h k (.ref a) ∧ k.depth ≤ 8 ∧ numK k = true
theorem IsN.inj {h : Heap} {k k2 : NestedKey} {a : Addr} (x : IsN h k a) (y : IsN h k2 a) : k = k2 := NestedIs.inj _ _ _ x.1 y.1
theorem IsN.keep {h h2 : Heap} {k : NestedKey} {a : Addr} (x : IsN h k a) (hk : ∀ c o, h.get? c = some o → h2.get? c = some o) : IsN h2 k a := ⟨NestedIs.at (fun c o _ _ q _ => hk c o q) _ _ x.1, x.2⟩
theorem IsN.same {h h2 : Heap} {k : NestedKey} {a d : Addr} {o : Obj} {es : Array (Int × Value)} {ep : Nat} {t : SetTable} (x : IsN h k a) (ho : h.get? d = some o) (hd : o.data = .set es ep t) (hs : Heap.SameBut d h h2) : IsN h2 k a := by
  refine ⟨NestedIs.at (fun c oc vs n q1 q2 => ?_) _ _ x.1, x.2⟩
  refine (hs.2 c fun e => ?_).trans q1
  subst e
  rw [ho] at q1
  cases q1
  rw [hd] at q2
  cases q2
theorem unseen {x : Addr} {k : NestedKey} (hk : IsN s.heap k x) {ys : List Value} (hy : ∀ y ∈ ys, ∃ k2 c, y = Value.ref c ∧ IsN s.heap k2 c) {Q : Bool → Shared → Prop} (hq : Q false s) :
    wpAny (model P w) A (searchCouldBeSeen (.ref x) ys) Q E s := by
  unfold searchCouldBeSeen
  refine wpAny_bind ?_
  refine wpAny_forIn_list _ (fun rest r s2 => r.1 = none ∧ s2 = s ∧ ∀ y ∈ rest, ∃ k2 c, y = Value.ref c ∧ IsN s.heap k2 c) _ ?_ ?_ _ _ ⟨rfl, rfl, hy⟩
  · rintro v rest r s2 ⟨hr, rfl, hall⟩
    obtain ⟨k2, c, rfl, hc⟩ := hall v List.mem_cons_self
    have more : ∀ y ∈ rest, ∃ k2 c, y = Value.ref c ∧ IsN s2.heap k2 c := fun u hu => hall u (List.mem_cons_of_mem _ hu)
    dsimp only
    by_cases hv : (x == c || (carriedByValue (.ref x) && carriedByValue (.ref c))) = true
    · refine wp_if_pos hv ?_
      exact wpAny_pure ⟨rfl, rfl, more⟩
    · refine wp_if_neg hv ?_
      refine wpAny_bind (quiet_key k _ 8 s2 hk.1 hk.2.1 _ _ _ ?_)
      simp only [Bool.not_true, Bool.false_eq_true, if_false]
      refine wpAny_bind (quiet_key k2 _ 8 s2 hc.1 hc.2.1 _ _ _ ?_)
      simp only [Bool.not_true, Bool.false_eq_true, if_false]
      refine wpAny_bind (noCls k _ 8 s2 hk.1 hk.2.1 _ _ _ ?_)
      simp only [Bool.false_eq_true, if_false]
      refine wpAny_bind (noCls k2 _ 8 s2 hc.1 hc.2.1 _ _ _ ?_)
      simp only [Bool.false_eq_true, if_false]
      exact wpAny_pure ⟨rfl, rfl, more⟩
  · rintro ⟨r1, r2⟩ s2 ⟨hr, rfl, _⟩
    simp only at hr
    subst hr
    exact wpAny_pure hq
/-! the set -/
abbrev hN (w : World) (p : Addr × NestedKey) : Int := p.2.hash w
def entsN (w : World) (L : List (Addr × NestedKey)) : List (Int × Value) := L.map fun p => (hN w p, Value.ref p.1)
structure SetN (w : World) (h : Heap) (a : Addr) (L : List (Addr × NestedKey)) (es : Array (Int × Value)) (ep : Nat) (t : SetTable) : Prop where
  obj : ∃ o, h.get? a = some o ∧ o.ExactSet ∧ o.data = .set es ep t
  ents : es.toList = entsN w L
  tab : TabOk t (L.map (hN w))
  nd : (L.map (·.2)).Nodup
  key : ∀ p ∈ L, IsN h p.2 p.1
  plain : t.plain = true
  led : w.params.followText "set-order" = true ∨ t.led = true
  room : L.length * 5 < t.mask * 3
  few : L.length < 64
variable {a : Addr} {L : List (Addr × NestedKey)} {es : Array (Int × Value)} {ep : Nat} {t : SetTable}
theorem entsN_len : (entsN w L).length = L.length := by unfold entsN; rw [List.length_map]
theorem sizeN (he : es.toList = entsN w L) : es.size = L.length := by rw [← Array.length_toList, he, entsN_len]
theorem atN (he : es.toList = entsN w L) {i : Nat} {p : Addr × NestedKey} (hp : L[i]? = some p) : es[i]? = some (hN w p, Value.ref p.1) := by
  rw [← Array.getElem?_toList, he, entsN, List.getElem?_map, hp]; rfl
theorem fitsN {hs : List Int} (T : TabOk t hs) (hl : hs.length = es.size) (hm : es.size ≤ t.mask) : t.fits es.size = true := by
  have h1 := T.sz
  unfold SetTable.fits SetTable.fill
  rw [T.dm, Bool.and_eq_true, beq_iff_eq, decide_eq_true_eq]
  refine ⟨by omega, ?_⟩
  show t.place.size + 0 ≤ t.mask
  omega
theorem SetN.fits (R : SetN w s.heap a L es ep t) : t.fits es.size = true := by
  have hsz := sizeN R.ents
  have hr := R.room
  exact fitsN R.tab (by rw [List.length_map, hsz]) (by omega)
theorem SetN.ok (R : SetN w s.heap a L es ep t) : ¬ t.gaveWay = true := by
  unfold SetTable.gaveWay
  rw [mask_odd R.tab.mok]
  decide
theorem no_dummy (m : Nat) : ∀ (n : Nat) (p : SetTable.Probe), p.dummy = none → (nth m p n).dummy = none
  | 0, _, h => h
  | n + 1, p, h => no_dummy m n (adv m p) (by unfold adv; split <;> exact h)
/-- what stands on the way of a key that the set has -/
theorem SetN.met (R : SetN w s.heap a L es ep t) {k : NestedKey} {K : Nat} (hK : way t.mask (k.hash w) K ∉ t.place.toList) {i : Nat} {p : Addr × NestedKey} (hp : L[i]? = some p) (hk : p.2 = k) :
    ∃ c, c < K ∧ t.place.toList[i]? = some (way t.mask (k.hash w) c) := by
  have hi : (L.map (hN w))[i]? = some (k.hash w) := by rw [List.getElem?_map, hp, ← hk]; rfl
  have hil : i < t.place.toList.length := by
    have h1 : i < L.length := (List.getElem?_eq_some_iff.mp hp).1
    have h2 := R.tab.sz
    rw [List.length_map] at h2
    rw [Array.length_toList]
    omega
  have hj := List.getElem?_eq_getElem hil
  obtain ⟨c, hc, e⟩ := R.tab.before hK hi hj
  exact ⟨c, hc, by rw [hj, e]⟩
theorem find_from (R : SetN w s.heap a L es ep t) {x : Addr} {k : NestedKey} (hx : IsN s.heap k x) {hs : Int} (ehs : k.hash w = hs) (hu : A.units + 8 < cLine) {K : Nat} (hKf : K < 10 * SetTable.turns t.mask)
    (hK : way t.mask hs K ∉ t.place.toList) (hKb : ∀ c, c < K → way t.mask hs c ∈ t.place.toList) {Q : SetFound → Shared → Prop}
    (hin : k ∈ L.map (·.2) → Q (.there none) s) (hout : k ∉ L.map (·.2) → Q (.free (way t.mask hs K) false) s) :
    ∀ (f c : Nat) (st : Option SetTable.Probe), st.getD (t.probeStart hs) = nth t.mask (runAt t.mask (SetTable.bits hs % (t.mask + 1)) (SetTable.bits hs)) c → c ≤ K → K - c < f →
      (∀ (i : Nat) p, L[i]? = some p → p.2 = k → ∃ c2, c ≤ c2 ∧ c2 < K ∧ t.place.toList[i]? = some (way t.mask hs c2)) →
      wpAny (model P w) A (setSearchFrom a (.ref x) hs true f st) Q E s
  | 0, c, st, _, _, hf, _ => absurd hf (Nat.not_lt_zero _)
  | f + 1, c, st, hst, hc, hf, hre => by
    obtain ⟨ob, q1, q2, q3⟩ := R.obj
    rw [setSearchFrom_succ]
    refine wpAny_bind (wpAny_setState_of q1 q3 R.fits ?_)
    dsimp only
    refine wp_if_neg R.ok ?_
    try refine wpAny_bind (wpAny_pure ?_)
    obtain ⟨st0, e0⟩ : ∃ z, z = nth t.mask (runAt t.mask (SetTable.bits hs % (t.mask + 1)) (SetTable.bits hs)) c := ⟨_, rfl⟩
    rw [← e0] at hst
    have hnd : st0.dummy = none := by rw [e0]; exact no_dummy _ c _ rfl
    have far : ∀ q, nth t.mask st0 q = nth t.mask (runAt t.mask (SetTable.bits hs % (t.mask + 1)) (SetTable.bits hs)) (c + q) := fun q => by rw [e0]; exact (nth_add t.mask c _ q).symm
    have wayq : ∀ q, (nth t.mask st0 q).j = way t.mask hs (c + q) := fun q => congrArg SetTable.Probe.j (far q)
    have spec := go_spec t R.tab.ris R.tab.dm (fun i => (es[i]?.map (·.1)).getD 0) hs (10 * SetTable.turns t.mask) (K - c) st0 hnd (by omega)
      (fun q hq => by rw [wayq]; exact hKb (c + q) (by omega)) (by rw [wayq, show c + (K - c) = K by omega]; exact hK)
    have hashAt : ∀ (i : Nat) p, L[i]? = some p → (es[i]?.map (·.1)).getD 0 = hN w p := fun i p hp => by rw [atN R.ents hp]; rfl
    rcases spec with ⟨q, i, hq, hi, hh, hno, hpr⟩ | ⟨hno, hpr⟩
    · have pr : t.probe (fun i => (es[i]?.map (·.1)).getD 0) hs (st.getD (t.probeStart hs)) = some (.candidate (way t.mask hs (c + q)) i (nth t.mask st0 (q + 1))) := by
        rw [hst, ← wayq]
        exact hpr
      rw [pr]
      dsimp only
      rw [wayq] at hi
      have hil : i < L.length := by
        have h1 : i < t.place.toList.length := (List.getElem?_eq_some_iff.mp hi).1
        have h2 := R.tab.sz
        rw [List.length_map] at h2
        rw [Array.length_toList] at h1
        omega
      obtain ⟨p, hp⟩ : ∃ p, L[i]? = some p := ⟨_, List.getElem?_eq_getElem hil⟩
      have hmem : p ∈ L := List.mem_of_getElem? hp
      have hpt := R.key p hmem
      have go : wpAny (model P w) A (searchRest a (.ref x) hs true f es t (way t.mask hs (c + q)) i (nth t.mask st0 (q + 1))) Q E s := by
        unfold searchRest
        rw [atN R.ents hp]
        dsimp only
        refine wpAny_bind (wpAny_holding ((nestedKind P w).eqBool (x := p.2) (y := k) hu ⟨hpt.1, hpt.2.1⟩ ⟨hx.1, hx.2.1⟩ ?_))
        refine wpAny_bind (wpAny_setState_of q1 q3 R.fits ?_)
        dsimp only
        by_cases hkk : p.2 = k
        · refine wp_if_pos (by simp [hkk]) ?_
          exact wpAny_pure (hin (List.mem_map.mpr ⟨p, hmem, hkk⟩))
        · refine wp_if_neg (by simp [hkk]) ?_
          try refine wpAny_bind (wpAny_pure ?_)
          rw [sameMem]
          dsimp only
          have hsl : t.slot (way t.mask hs (c + q)) = .live i := slot_live R.tab.ris hi
          simp only [if_true, hsl, atN R.ents hp]
          refine wpAny_bind (wpAny_isSame_ref_self (wpAny_bind (wpAny_pure ?_)))
          simp only [if_true]
          refine wp_if_neg (by simp [hkk]) ?_
          refine find_from R hx ehs hu hKf hK hKb hin hout f (c + (q + 1)) _ (far (q + 1)) (by omega) (by omega) fun i0 p0 h0 hk0 => ?_
          obtain ⟨c2, a1, a2, a3⟩ := hre i0 p0 h0 hk0
          refine ⟨c2, ?_, a2, a3⟩
          rcases Nat.lt_or_ge c2 (c + q) with z | z
          · exfalso
            refine hno (c2 - c) i0 (by omega) (by rw [wayq, show c + (c2 - c) = c2 by omega]; exact a3) ?_
            exact ((hashAt i0 p0 h0).trans (congrArg (NestedKey.hash w) hk0)).trans ehs
          · rcases Nat.lt_or_ge (c + q) c2 with y | y
            · omega
            · exfalso
              have ec : c2 = c + q := Nat.le_antisymm y z
              rw [ec] at a3
              have s0 := slot_live R.tab.ris a3
              rw [hsl] at s0
              injection s0 with s0
              rw [← s0, hp] at h0
              exact hkk ((congrArg Prod.snd (Option.some.inj h0)).trans hk0)
      by_cases hl : t.led = true
      · refine wp_if_neg (by simp [hl]) ?_
        try refine wpAny_bind (wpAny_pure ?_)
        exact go
      · refine wp_if_pos (by simp [hl]) ?_
        refine wpAny_bind (unseen hx (fun y hy => ?_) ?_)
        · obtain ⟨e, he, ee⟩ := List.mem_map.mp hy
          have m1 : e ∈ es ∧ e.1 = hs := by simpa using he
          have m2 : e ∈ es.toList := by simpa using m1.1
          rw [R.ents] at m2
          obtain ⟨p2, hp2, e2⟩ := List.mem_map.mp m2
          exact ⟨p2.2, p2.1, by rw [← ee, ← e2], R.key p2 hp2⟩
        · refine wp_if_neg (by decide) ?_
          try refine wpAny_bind (wpAny_pure ?_)
          exact go
    · have pr : t.probe (fun i => (es[i]?.map (·.1)).getD 0) hs (st.getD (t.probeStart hs)) = some (.empty (way t.mask hs K) none) := by
        have e2 : way t.mask hs K = (nth t.mask st0 (K - c)).j := by
          rw [wayq, show c + (K - c) = K by omega]
        rw [hst, e2]
        exact hpr
      rw [pr]
      dsimp only
      refine wpAny_pure (hout fun hm => ?_)
      obtain ⟨p0, h0, hk0⟩ := List.mem_map.mp hm
      obtain ⟨i0, hi0, e2⟩ := List.getElem_of_mem h0
      have h00 : L[i0]? = some p0 := by rw [List.getElem?_eq_getElem hi0, e2]
      obtain ⟨c2, a1, a2, a3⟩ := hre i0 p0 h00 hk0
      refine hno (c2 - c) i0 (by omega) (by rw [wayq, show c + (c2 - c) = c2 by omega]; exact a3) ?_
      exact ((hashAt i0 p0 h00).trans (congrArg (NestedKey.hash w) hk0)).trans ehs
theorem find_in (R : SetN w s.heap a L es ep t) {x : Addr} {k : NestedKey} (hx : IsN s.heap k x) (hu : A.units + 8 < cLine) {Q : SetFound → Shared → Prop}
    (hin : k ∈ L.map (·.2) → Q (.there none) s)
    (hout : ∀ K, k ∉ L.map (·.2) → way t.mask (k.hash w) K ∉ t.place.toList → (∀ c, c < K → way t.mask (k.hash w) c ∈ t.place.toList) → Q (.free (way t.mask (k.hash w) K) false) s) :
    wpAny (model P w) A (setSearch a (.ref x) (k.hash w) true) Q E s := by
  have hr := R.room
  obtain ⟨K, hKf, hK, hKb⟩ := R.tab.first (by rw [List.length_map]; omega) (k.hash w)
  have big : K < 100000 := by
    have : 10 * SetTable.turns t.mask ≤ 1420 := by
      unfold SetTable.turns
      rcases R.tab.mok with e | e | e <;> omega
    omega
  unfold setSearch
  refine find_from R hx rfl hu hKf hK hKb hin (fun hn => hout K hn hK hKb) 100000 0 none rfl (Nat.zero_le _) (by omega) fun i p hp hk => ?_
  obtain ⟨c, hc, e⟩ := R.met hK hp hk
  exact ⟨c, Nat.zero_le _, hc, e⟩
end
end SN

namespace SN
open PySem PySem.Spec PyProof.Rows L2
section
variable {P : Program} {w : World} {A : Around} {E : Value → Shared → Prop} {s : Shared}
variable {a : Addr} {L : List (Addr × NestedKey)} {es : Array (Int × Value)} {ep : Nat} {t : SetTable}
theorem pick_get {α : Type} (L : List α) : ∀ n, n ≤ L.length → (List.range n).filterMap (fun i => L[i]?) = L.take n
  | 0, _ => by simp
  | n + 1, h => by
    rw [List.range_succ, List.filterMap_append, pick_get L n (by omega), List.take_succ, List.getElem?_eq_getElem (by omega)]
    simp [List.getElem?_eq_getElem (show n < L.length by omega)]
/-- the entries in another order -/
theorem turn_ents (he : es.toList = entsN w L) {ord : Array Nat} (hp : ord.toList.Perm (List.range L.length)) :
    ∃ M, (ord.filterMap (es[·]?)).toList = entsN w M ∧ M.Perm L ∧ M.map (hN w) = ord.toList.map fun i => (es.map (·.1)).getD i 0 := by
  have hz := sizeN he
  have key : ∀ l : List Nat, (∀ i ∈ l, i < L.length) → ∃ M : List (Addr × NestedKey), l.filterMap (fun i => es[i]?) = entsN w M ∧ M = l.filterMap (fun i => L[i]?) ∧ M.map (hN w) = l.map fun i => (es.map (·.1)).getD i 0 := by
    intro l
    induction l with
    | nil => intro _; exact ⟨[], rfl, rfl, rfl⟩
    | cons i l ih =>
      intro hl
      have hi := hl i (by simp)
      obtain ⟨M, e1, e2, e3⟩ := ih fun j hj => hl j (by simp [hj])
      have eL := List.getElem?_eq_getElem hi
      have eE := atN he eL
      refine ⟨L[i] :: M, ?_, ?_, ?_⟩
      · rw [List.filterMap_cons_some eE, e1]; rfl
      · rw [List.filterMap_cons_some eL, e2]
      · have e5 : (es.map (·.1))[i]? = some (hN w L[i]) := by rw [Array.getElem?_map, eE]; rfl
        rw [List.map_cons, List.map_cons, e3]
        simp [Array.getD_eq_getD_getElem?, e5]
  obtain ⟨M, e1, e2, e3⟩ := key ord.toList fun i hi => List.mem_range.mp (hp.mem_iff.mp hi)
  refine ⟨M, by first | (rw [Array.toList_filterMap]; exact e1) | simpa using e1, ?_, e3⟩
  have h1 : M.Perm ((List.range L.length).filterMap fun i => L[i]?) := by rw [e2]; exact hp.filterMap _
  rw [pick_get L _ (Nat.le_refl _), List.take_length] at h1
  exact h1
/-- the table is laid anew -/
theorem relay_in {o : Obj} (g1 : s.heap.get? a = some o) (g2 : o.ExactSet) (g3 : o.data = .set es ep t) (he : es.toList = entsN w L) (T : TabOk t (L.map (hN w))) (hm : es.size ≤ t.mask)
    (nd : (L.map (·.2)).Nodup) (kk : ∀ p ∈ L, IsN s.heap p.2 p.1) (pl : t.plain = true) (ld : w.params.followText "set-order" = true ∨ t.led = true) (few : L.length < 64) {want M : Nat}
    (hw : SetTable.sizeAbove want - 1 = M) (hM : MaskOk M) (hw2 : SetTable.sizeAbove want ≤ 128) (hr : L.length * 5 < M * 3) {Q : Unit → Shared → Prop}
    (hQ : ∀ h2 L2 es2 ep2 t2, Heap.SameBut a s.heap h2 → SetN w h2 a L2 es2 ep2 t2 → L2.Perm L → Q () { s with heap := h2 }) : wpAny (model P w) A (setRelay a want) Q E s := by
  have hz := sizeN he
  have hf := fitsN T (by rw [List.length_map, hz]) hm
  obtain ⟨t2, ord, e, hp, T2, em, el, epl, ed⟩ := relaid_ok t (hs := es.map (·.1)) (wanted := want) hw hM (by rw [Array.size_map, hz]; omega)
  rw [Array.size_map, hz] at hp
  obtain ⟨L2, r1, r2, r3⟩ := turn_ents he hp
  rw [← r3] at T2
  have hs2 : (ord.filterMap (es[·]?)).size = es.size := by rw [sizeN r1, r2.length_eq, hz]
  rw [setRelay_eq]
  refine wpAny_bind (wpAny_setState_of g1 g3 hf ?_)
  dsimp only
  refine wp_if_neg (by rw [sizeLine_eq]; omega) ?_
  try refine wpAny_bind (wpAny_pure ?_)
  rw [e]
  dsimp only
  refine wpAny_bind ?_
  refine wp_if_neg (by rw [hs2]; simp) ?_
  try refine wpAny_bind (wpAny_pure ?_)
  refine wpAny_pure ?_
  dsimp only
  refine wpAny_storeSet_of g1 g3 ?_ (by rw [hs2, hz, sizeLine_eq]; omega)
  have sb : Heap.SameBut a s.heap (s.heap.update a (Obj.putSet (ord.filterMap (es[·]?)) t2)) := Heap.SameBut.update ..
  refine hQ _ L2 (ord.filterMap (es[·]?)) (ep + 1) t2 sb ⟨⟨_, store_at g1 g3, ⟨g2.1, g2.2.1, g2.2.2⟩, rfl⟩, r1, T2, ?_, fun p hpm => (kk p (r2.mem_iff.mp hpm)).same g1 g3 sb, by rw [epl]; exact pl, by rw [el]; exact ld, ?_, by rw [r2.length_eq]; exact few⟩ r2
  · exact (r2.map (·.2)).nodup_iff.mpr nd
  · rw [r2.length_eq, em]; exact hr
/-- one more -/
theorem put_in (R : SetN w s.heap a L es ep t) {x : Addr} {k : NestedKey} (hx : IsN s.heap k x) (hu : A.units + 8 < cLine) (hfew : k ∉ L.map (·.2) → L.length + 1 < 64) {Q : Bool → Shared → Prop}
    (hQ : ∀ b h2 L2 es2 ep2 t2, Heap.SameBut a s.heap h2 → SetN w h2 a L2 es2 ep2 t2 → (k ∈ L.map (·.2) → L2 = L) → (k ∉ L.map (·.2) → L2.Perm ((x, k) :: L)) → Q b { s with heap := h2 }) :
    wpAny (model P w) A (setAddHashed a (.ref x) (k.hash w)) Q E s := by
  obtain ⟨ob, g1, g2, g3⟩ := R.obj
  have hz := sizeN R.ents
  have hr := R.room
  unfold setAddHashed
  refine wpAny_holding ?_
  rw [show (100000 : Nat) = 99999 + 1 from rfl, setAddHashedIn_succ]
  refine wpAny_bind (wpAny_setState_of g1 g3 R.fits ?_)
  dsimp only
  refine wp_if_neg (by simp [byScan, Value.scannable]) ?_
  try refine wpAny_bind (wpAny_pure ?_)
  refine wpAny_bind (find_in R hx hu (fun hm => ?_) fun K hm hK hb => ?_)
  · dsimp only
    exact wpAny_pure (hQ false s.heap L es ep t (Heap.SameBut.refl a s.heap) R (fun _ => rfl) fun z => absurd hm z)
  · dsimp only
    have hfew := hfew hm
    refine wpAny_bind (wpAny_setState_of g1 g3 R.fits ?_)
    dsimp only
    obtain ⟨q1, q2, q3, q4, q5, q6, q7, q8, q9⟩ := R.tab.put hK hb
    have pl1 : (t.put (way t.mask (k.hash w) K)).1.plain = true := by rw [q6]; exact R.plain
    generalize ept : t.put (way t.mask (k.hash w) K) = pt at q1 q3 q4 q5 q6 q7 q8 q9 pl1 ⊢
    obtain ⟨t1, at1⟩ := pt
    dsimp only at q1 q3 q4 q5 q6 q7 q8 q9 pl1 ⊢
    subst q1
    first
      | (refine wpAny_bind ?_; refine wp_if_pos pl1 ?_; refine byVal k _ 8 s hx.1 hx.2.1 hx.2.2 _ _ _ ?_)
      | refine wp_if_pos pl1 (wpAny_bind (byVal k _ 8 s hx.1 hx.2.1 hx.2.2 _ _ _ ?_))
    simp only [if_true]
    generalize en : SetTable.below t.place (way t.mask (k.hash w) K) = n at q2 q3 ⊢
    have hin : (SetTable.insertAt es n (k.hash w, Value.ref x)).toList = entsN w (L.take n ++ (x, k) :: L.drop n) := by
      rw [SetTable.toList_insertAt, R.ents]
      unfold entsN
      rw [List.map_append, List.map_cons, List.map_take, List.map_drop]
    have pm := put_perm L n (x, k)
    have hlen : (L.take n ++ (x, k) :: L.drop n).length = L.length + 1 := pm.length_eq
    have eh : (L.take n ++ (x, k) :: L.drop n).map (hN w) = (L.map (hN w)).take n ++ k.hash w :: (L.map (hN w)).drop n := by
      rw [List.map_append, List.map_cons, List.map_take, List.map_drop]
    rw [← eh] at q3
    have nd1 : ((L.take n ++ (x, k) :: L.drop n).map (·.2)).Nodup := by
      refine (pm.map (·.2)).nodup_iff.mpr ?_
      rw [List.map_cons]
      exact List.nodup_cons.mpr ⟨hm, R.nd⟩
    generalize SetTable.insertAt es n (k.hash w, Value.ref x) = es1 at hin ⊢
    generalize L.take n ++ (x, k) :: L.drop n = L1 at pm hlen q3 nd1 hin
    have hes := sizeN hin
    rw [hlen] at hes
    refine wpAny_bind (wpAny_storeSet_of g1 g3 ?_ (by rw [hes, sizeLine_eq]; omega))
    have sb : Heap.SameBut a s.heap (s.heap.update a (Obj.putSet es1 t1)) := Heap.SameBut.update ..
    have f1 := store_at (es' := es1) (t' := t1) g1 g3
    generalize s.heap.update a (Obj.putSet es1 t1) = h1 at sb f1 ⊢
    have kk1 : ∀ p ∈ L1, IsN h1 p.2 p.1 := fun p hp => by
      rcases List.mem_cons.mp (pm.mem_iff.mp hp) with e | hp
      · rw [e]; exact hx.same g1 g3 sb
      · exact (R.key p hp).same g1 g3 sb
    have ld1 : w.params.followText "set-order" = true ∨ t1.led = true := by rw [q5]; exact R.led
    by_cases hf : t1.tooFull = true
    · first
        | (refine wpAny_bind ?_; refine wp_if_pos (by simp [hf]) ?_)
        | (refine wp_if_pos (by simp [hf]) ?_; refine wpAny_bind ?_)
      have full : (L.length + 1) * 5 ≥ t1.mask * 3 := by
        have h := hf
        unfold SetTable.tooFull at h
        rw [decide_eq_true_eq, q9, List.length_map] at h
        exact h
      rw [hz]
      have two : (t.mask = 7 ∧ L.length = 4) ∨ (t.mask = 31 ∧ L.length = 18) := by
        rcases R.tab.mok with e | e | e
        · left; rw [q4, e] at full; rw [e] at hr; exact ⟨e, by omega⟩
        · right; rw [q4, e] at full; rw [e] at hr; exact ⟨e, by omega⟩
        · exfalso; rw [q4, e] at full; omega
      have go : ∀ M, SetTable.sizeAbove (SetTable.grown (L.length + 1)) - 1 = M → MaskOk M → SetTable.sizeAbove (SetTable.grown (L.length + 1)) ≤ 128 → (L.length + 1) * 5 < M * 3 →
          wpAny (model P w) A (setRelay a (SetTable.grown (L.length + 1))) (fun _ s2 => wpAny (model P w) A (pure true) Q E s2) E { s with heap := h1 } := fun M b1 b2 b3 b4 => by
        refine relay_in (s := { s with heap := h1 }) f1 ⟨g2.1, g2.2.1, g2.2.2⟩ rfl hin q3 (by rw [hes, q4]; rcases two with ⟨e, e2⟩ | ⟨e, e2⟩ <;> omega) nd1 kk1 pl1 ld1 (by rw [hlen]; exact hfew) b1 b2 b3 (by rw [hlen]; exact b4) ?_
        intro h2 L2 es2 ep2 t2 sb2 R2 pm2
        exact wpAny_pure (hQ true h2 L2 es2 ep2 t2 (sb.trans sb2) R2 (fun z => absurd z hm) fun _ => pm2.trans pm)
      rcases two with ⟨_, e2⟩ | ⟨_, e2⟩
      · exact go 31 (by rw [e2, size_20]) (.inr (.inl rfl)) (by rw [e2, size_20]; decide) (by omega)
      · exact go 127 (by rw [e2, size_76]) (.inr (.inr rfl)) (by rw [e2, size_76]; decide) (by omega)
    · first
        | refine wp_if_neg (by simp [hf]) ?_
        | (refine wpAny_bind ?_; refine wp_if_neg (by simp [hf]) ?_; refine wpAny_pure ?_)
      refine wpAny_pure (hQ true h1 L1 es1 (ep + 1) t1 sb ⟨⟨_, f1, ⟨g2.1, g2.2.1, g2.2.2⟩, rfl⟩, hin, q3, nd1, kk1, pl1, ld1, ?_, by rw [hlen]; exact hfew⟩ (fun z => absurd z hm) fun _ => pm)
      have h := hf
      unfold SetTable.tooFull at h
      rw [decide_eq_true_eq, q9, List.length_map] at h
      rw [hlen]
      omega
theorem SetN.keep {h h2 : Heap} (R : SetN w h a L es ep t) (ha : ∀ o, h.get? a = some o → h2.get? a = some o) (hk : ∀ p ∈ L, IsN h2 p.2 p.1) : SetN w h2 a L es ep t := by
  obtain ⟨o, q, r⟩ := R.obj
  exact ⟨⟨o, ha o q, r⟩, R.ents, R.tab, R.nd, hk, R.plain, R.led, R.room, R.few⟩
abbrev frS (w : World) : Obj := { cls := .type "set", dict := none, data := .set #[] 0 (.fresh 0 0 (!w.params.followText "set-order")) }
theorem setN_new {h : Heap} {a : Addr} (ho : h.get? a = some (frS w)) : SetN w h a [] #[] 0 (.fresh 0 0 (!w.params.followText "set-order")) where
  obj := ⟨_, ho, ⟨rfl, rfl, rfl⟩, rfl⟩
  ents := rfl
  tab := ⟨.nil, rfl, rfl, .inl rfl, (fun x hx => nomatch hx), fun i h j hi => (by simp at hi)⟩
  nd := .nil
  key := fun p hp => nomatch hp
  plain := rfl
  led := by
    show _ ∨ (!w.params.followText "set-order") = true
    cases w.params.followText "set-order"
    · exact .inr rfl
    · exact .inl rfl
  room := by show 0 * 5 < 7 * 3; decide
  few := by show 0 < 64; decide
/-- what came of the first i of ks -/
structure Had (ks : List (Addr × NestedKey)) (i : Nat) (L : List (Addr × NestedKey)) : Prop where
  sub : ∀ p ∈ L, p ∈ ks.take i
  all : ∀ p ∈ ks.take i, p.2 ∈ L.map (·.2)
theorem Had.same {ks : List (Addr × NestedKey)} {i : Nat} {x : Addr × NestedKey} (g : Had ks i L) (h : ks[i]? = some x) (hm : x.2 ∈ L.map (·.2)) : Had ks (i + 1) L := by
  have e := take_next h
  refine ⟨fun p hp => ?_, fun p hp => ?_⟩
  · rw [e]; exact List.mem_append_left _ (g.sub p hp)
  · rw [e] at hp
    rcases List.mem_append.mp hp with z | z
    · exact g.all p z
    · rw [List.mem_singleton.mp z]; exact hm
theorem Had.more {ks L2 : List (Addr × NestedKey)} {i : Nat} {x : Addr × NestedKey} (g : Had ks i L) (h : ks[i]? = some x) (pm : L2.Perm (x :: L)) : Had ks (i + 1) L2 := by
  have e := take_next h
  refine ⟨fun p hp => ?_, fun p hp => ?_⟩
  · rw [e]
    rcases List.mem_cons.mp (pm.mem_iff.mp hp) with e2 | z
    · rw [e2]; simp
    · exact List.mem_append_left _ (g.sub p z)
  · rw [(pm.map (·.2)).mem_iff, List.map_cons]
    rw [e] at hp
    rcases List.mem_append.mp hp with z | z
    · exact List.mem_cons_of_mem _ (g.all p z)
    · rw [List.mem_singleton.mp z]; simp
/-- how many unlike keys -/
def fewN (ks : List (Addr × NestedKey)) : Prop := ∀ l : List NestedKey, l.Nodup → (∀ k ∈ l, k ∈ ks.map (·.2)) → l.length < 64
theorem update_in {I : Addr} {fp wr : List Addr} {G : Array GenState → Array GenState → Prop} {n : Nat} {Pv : Nat → Value → Prop} {St : Nat → Shared → Prop} {R : Result → Shared → Prop}
    (W : WalksS P w A.in1 I fp wr G n Pv St) (S : Addr) (hSf : S ∉ fp) (ks : List (Addr × NestedKey)) (hn : n = ks.length) (hfew : fewN ks) (hval : ∀ i v, Pv i v → ∃ p, ks[i]? = some p ∧ v = .ref p.1)
    (h0 : Heap) (hk : ∀ p ∈ ks, IsN h0 p.2 p.1) (hS0 : h0.get? S = none) (hw0 : ∀ b ∈ wr, h0.get? b = none) (hu : A.in1.units + 8 < cLine) :
    ∀ (k i : Nat) (s : Shared), n - i = k → i ≤ n → St i s → (∀ b o, h0.get? b = some o → s.heap.get? b = some o) → (∃ L es ep t, SetN w s.heap S L es ep t ∧ Had ks i L) →
      (∀ s2 L es ep t, Moved (S :: wr) G s s2 → SetN w s2.heap S L es ep t → Had ks n L → (∀ b o, h0.get? b = some o → s2.heap.get? b = some o) → R (.ok (.ret .none)) s2) →
      codeAny (model P w) A (.builtin "set.update.loop" ⟨[.ref S, .ref I], []⟩) R s := by
  have hSw : S ∉ wr := fun h => hSf (W.sub _ h)
  have up : ∀ b ∈ wr, b ∈ S :: wr := fun b hb => List.mem_cons_of_mem _ hb
  have stay : ∀ {s s2 : Shared}, Moved wr G s s2 → (∀ b o, h0.get? b = some o → s.heap.get? b = some o) → ∀ b o, h0.get? b = some o → s2.heap.get? b = some o := fun hm q b o e =>
    hm.heap b o (fun hb => by rw [hw0 b hb] at e; cases e) (q b o e)
  intro k
  induction k with
  | zero =>
    intro i s hk2 hi hst q ⟨L, es, ep, t, hS, g⟩ hR
    have ein : i = n := by omega
    subst ein
    refine codeAny_builtin F.entry_set_update_loop ?_
    rw [Around.under_plainId F.plain_set_update_loop _]
    show wpAny _ A.in1 (pyNext (.ref I) >>= _) _ _ s
    refine wpAny_bind (W.done s _ _ hst fun s2 hm => ?_)
    show wpAny _ A.in1 (ret Value.none) _ _ s2
    have q2 := stay hm q
    exact wpAny_pure (hR s2 L es ep t (hm.mono up) (hS.keep (fun o e => hm.heap S o hSw e) fun p hp => (hk p (List.mem_of_mem_take (g.sub p hp))).keep q2) g q2)
  | succ k ih =>
    intro i s hk2 hi hst q ⟨L, es, ep, t, hS, g⟩ hR
    have lt : i < n := by omega
    refine codeAny_builtin F.entry_set_update_loop ?_
    rw [Around.under_plainId F.plain_set_update_loop _]
    show wpAny _ A.in1 (pyNext (.ref I) >>= _) _ _ s
    refine wpAny_bind (W.item i s _ _ lt hst fun v s2 hP hst2 hm => ?_)
    obtain ⟨p, hp, rfl⟩ := hval i v hP
    have q2 := stay hm q
    have S2 : SetN w s2.heap S L es ep t := hS.keep (fun o e => hm.heap S o hSw e) fun r hr => (hk r (List.mem_of_mem_take (g.sub r hr))).keep q2
    have hx : IsN s2.heap p.2 p.1 := (hk p (List.mem_of_getElem? hp)).keep q2
    show wpAny _ A.in1 (holding [Value.ref p.1] (setAdd S (.ref p.1)) >>= _) _ _ s2
    refine wpAny_bind (wpAny_holding ?_)
    unfold setAdd
    refine wpAny_holding ?_
    refine wpAny_bind ((nestedKind P w).pyHash hu ⟨hx.1, hx.2.1⟩ ?_)
    refine put_in (s := { s2 with toks := s2.toks + (nestedKind P w).draws p.2 }) S2 hx hu (fun hnew => ?_) fun b h2 L2 es2 ep2 t2 hsb R2 c1 c2 => ?_
    · have := hfew (p.2 :: L.map (·.2)) (List.nodup_cons.mpr ⟨hnew, S2.nd⟩) fun z hz => by
        rcases List.mem_cons.mp hz with e | hz
        · rw [e]; exact List.mem_map.mpr ⟨p, List.mem_of_getElem? hp, rfl⟩
        · obtain ⟨r, hr, e⟩ := List.mem_map.mp hz
          exact List.mem_map.mpr ⟨r, List.mem_of_mem_take (g.sub r hr), e⟩
      simpa using this
    have g2 : Had ks (i + 1) L2 := by
      rcases Classical.em (p.2 ∈ L.map (·.2)) with c | c
      · rw [c1 c]; exact g.same hp c
      · exact g.more hp (c2 c)
    have q3 : ∀ b o, h0.get? b = some o → h2.get? b = some o := fun b o e => (hsb.2 b (fun z => by rw [z, hS0] at e; cases e)).trans (q2 b o e)
    refine wpAny_pure ⟨plainId_quiet F.plain_set_update_loop _, ih (i + 1) _ (by omega) lt (W.frame _ s2 _ _ hst2 (Nat.le_add_right _ _) fun b hb o e => ?_) q3 ⟨L2, es2, ep2, t2, R2, g2⟩ fun s3 L3 es3 ep3 t3 hm3 R3 g3 q4 => ?_⟩
    · rw [hsb.2 b (fun h : b = S => hSf (by rw [← h]; exact hb))]; exact e
    · refine hR s3 L3 es3 ep3 t3 (Moved.trans W.gtrans ((hm.mono up).then_heap (Nat.le_add_right _ _) fun b o hb e => ?_) hm3) R3 g3 q4
      rw [hsb.2 b (fun h : b = S => hb (by rw [h]; exact List.mem_cons_self))]; exact e
end
end SN

namespace SN
open PySem PySem.Spec PyProof.Rows L2
section
variable {P : Program} {w : World} {A : Around} {E : Value → Shared → Prop} {s : Shared}
/-- the loop of set(..) from the state s on, ended so -/
def LoopOk (P : Program) (w : World) (A : Around) (s : Shared) (S I : Addr) (Fin : Heap → Prop) : Prop :=
  ∀ R : Result → Shared → Prop, (∀ h2 tk, Fin h2 → R (.ok (.ret .none)) { s with heap := h2, toks := tk }) → codeAny (model P w) A (.builtin "set.update.loop" ⟨[.ref S, .ref I], []⟩) R s

theorem call_set_L {l : Addr} {items : Array Value} {Fin : Heap → Prop} {Q : Value → Shared → Prop} (hl : s.heap.IsList l items) (hh : A.handled = none)
    (hloop : ∀ B : Around, B.handled = none → B.units ≤ A.units + 3 → LoopOk P w B { s with heap := (s.heap.push (frS w)).push { cls := .type "list_iterator", data := .fields #[.ref l, .int 0 0] } } s.heap.objs.size (s.heap.push (frS w)).objs.size Fin)
    (hq : ∀ h2 tk, Fin h2 → Q (.ref s.heap.objs.size) { s with heap := h2, toks := tk }) : wpAny (model P w) A (call (.type "set") [.ref l]) Q E s := by
  obtain ⟨c0, tl, hmro⟩ := F.called_set.mro
  have x1 := F.called_set.made
  have x2 := F.called_set.sub
  refine wpAny_call (codeAny_of_tree ?_)
  show wpAny _ _ (callAny (.type "set") _) _ _ _
  refine wpAny_pure ⟨Code.quiet_builtin _ (by decide +kernel), codeAny_builtin F.entry_type_call ?_⟩
  rw [Around.under_plain (weight_type_call_type "set" [.ref l] []) rfl]
  have x3 := F.called_set.notType
  have x4 := F.called_set.canCreate
  have x5 := F.typeCall_set_1 (.ref l)
  repeat (any_goals (first | assumption | wp_step))
  refine codeAny_mono (code_set_led1 (.ref l) (E := E) (Q₁ := fun ob s1 => ob = .ref s.heap.objs.size ∧ s1 = { s with heap := s.heap.push (frS w) }) ⟨rfl, rfl⟩) fun r s1 hr => ?_
  cases r with
  | error e => exact hr
  | ok fl =>
    cases fl with
    | ret ob =>
      obtain ⟨rfl, rfl⟩ := hr
      have at1 : (s.heap.push (frS w)).get? s.heap.objs.size = some (frS w) := Heap.get?_push_size _ rfl
      have ty1 : Shared.TypeIs { s with heap := s.heap.push (frS w) } (.ref s.heap.objs.size) "set" := ⟨_, at1, rfl⟩
      have x6 := F.called_set.init.lookup
      have x7 := F.called_set.init.bind (.ref s.heap.objs.size)
      repeat (any_goals (first | assumption | wp_step))
      refine codeAny_mono (codeAny_call_builtin (R := wants (fun r s2 => r = .none ∧ ∃ h2 tk, s2 = { s with heap := h2, toks := tk } ∧ Fin h2) E) F.called_set.init.plain F.entry_set_init (check_set_init_1 ty1 ?_)) fun r2 s2 hr2 => ?_
      · obtain ⟨⟨oc, od, ot, os⟩, o1, o2, nl, o3⟩ := hl
        simp only at o2 o3
        subst o2; subst o3
        have o4 : (s.heap.push (frS w)).get? l = some { cls := .type "list", dict := od, data := .seq items nl, slots := os } := Heap.get?_push_of_some _ o1
        have x8 := F.sub_list_set
        have x9 := F.sub_list_frozenset
        have xa : (Value.type "list" == Value.type "dict") = false := by decide
        have o5 : (s.heap.push (frS w)).IsList l items := ⟨_, o4, rfl, nl, rfl⟩
        unfold Builtin.«set.__init__» noKeywords Builtin.Frozenset.updateFrom
        generalize ePI : pyIter = pit
        wp_walk
        subst ePI
        refine wpAny_pyIter_list o5 ?_
        refine wpAny_bind (wpAny_runValue ?_)
        refine hloop _ (by simp [hh]) (by simp only [Around.in1_units]; omega) _ fun h2 tk hf => ?_
        show wpAny _ _ _ _ _ _
        refine wpAny_pure ?_
        show wpAny _ _ (ret Value.none) _ _ _
        exact wpAny_pure ⟨rfl, h2, tk, rfl, hf⟩
      · cases r2 with
        | error e => exact hr2
        | ok fl2 =>
          cases fl2 with
          | ret r =>
            obtain ⟨rfl, h2, tk, rfl, hf⟩ := hr2
            repeat (any_goals (first | assumption | wp_step))
            exact hq _ _ hf
          | _ => exact hr2.elim
    | _ => exact hr.elim
/-- the loop over nested keys -/
theorem loopN_L {l : Addr} {items : Array Value} (hl : s.heap.IsList l items) {B : Around} (hb : B.handled = none) (hu : B.units + 9 < cLine) (ks : List (Addr × NestedKey)) (hit : items.toList = ks.map fun p => Value.ref p.1)
    (hk : ∀ p ∈ ks, IsN s.heap p.2 p.1) (few : fewN ks) :
    LoopOk P w B { s with heap := (s.heap.push (frS w)).push { cls := .type "list_iterator", data := .fields #[.ref l, .int 0 0] } } s.heap.objs.size (s.heap.push (frS w)).objs.size
      (fun h2 => ∃ L es ep t, SetN w h2 s.heap.objs.size L es ep t ∧ Had ks ks.length L ∧ ∀ b o, s.heap.get? b = some o → h2.get? b = some o) := by
  intro R hR
  have isz : items.size = ks.length := by rw [← Array.length_toList, hit, List.length_map]
  obtain ⟨o0, o1, _⟩ := id hl
  have lt := Heap.lt_size o1
  have h3 : B.in1.handled = none := by simp [hb]
  have at1 : (s.heap.push (frS w)).get? s.heap.objs.size = some (frS w) := Heap.get?_push_size _ rfl
  have nI : l ≠ (s.heap.push (frS w)).objs.size := by rw [Heap.size_push]; exact Nat.ne_of_lt (Nat.lt_succ_of_lt lt)
  have nS : s.heap.objs.size ∉ [(s.heap.push (frS w)).objs.size, l] := by
    rw [Heap.size_push]
    simp only [List.mem_cons, List.mem_singleton, List.not_mem_nil, or_false, not_or]
    exact ⟨Nat.ne_of_lt (Nat.lt_succ_self _), Nat.ne_of_gt lt⟩
  have val : ∀ (i : Nat) (v : Value), items[i]? = some v → ∃ p, ks[i]? = some p ∧ v = .ref p.1 := fun i v hv => by
    have q : items.toList[i]? = some v := by rw [Array.getElem?_toList]; exact hv
    rw [hit, List.getElem?_map] at q
    cases e : ks[i]? with
    | none => rw [e] at q; cases q
    | some p => rw [e] at q; exact ⟨p, rfl, (Option.some.inj q).symm⟩
  have free : ∀ b, s.heap.objs.size ≤ b → s.heap.get? b = none := fun b hb => by
    cases q : s.heap.get? b with
    | none => rfl
    | some o => exact absurd (Nat.lt_of_lt_of_le (Heap.lt_size q) hb) (Nat.lt_irrefl _)
  have o5 : (s.heap.push (frS w)).IsList l items := hl.push _
  refine update_in ((Walks.list h3 _ l nI items).toS) s.heap.objs.size nS ks isz few val s.heap hk (free _ (Nat.le_refl _)) (fun b hb => free b (by
      rw [List.mem_singleton.mp hb, Heap.size_push]
      exact Nat.le_succ _)) (by simp only [Around.in1_units]; omega) (items.size - 0) 0 _ (by omega) (Nat.zero_le _)
    ⟨⟨_, Heap.get?_push_size _ rfl, rfl, rfl⟩, (o5.push _)⟩ (fun b o e => Heap.get?_push_of_some _ (Heap.get?_push_of_some _ e)) ?_ ?_
  · exact ⟨[], #[], 0, _, setN_new (Heap.get?_push_of_some _ at1), ⟨fun p h => (nomatch h), fun p h => (by simp at h)⟩⟩
  · intro s2 L es ep t hm R2 g q
    obtain ⟨h2, g2, d2, k2, os2⟩ := s2
    have eg : g2 = s.gens := hm.gens
    have ed : d2 = s.drawn := hm.drawn
    have eo : os2 = s.os := hm.os
    subst eg; subst ed; subst eo
    rw [isz] at g
    exact hR _ _ ⟨L, es, ep, t, R2, g, q⟩
/-- the loop over whole numbers -/
theorem loopI_L {l : Addr} {items : Array Value} (hl : s.heap.IsList l items) {B : Around} (hb : B.handled = none) (ns : List Int) (hit : IntsAre items.toList ns) (few : ns.length + 1 < scanBound) :
    LoopOk P w B { s with heap := (s.heap.push (frS w)).push { cls := .type "list_iterator", data := .fields #[.ref l, .int 0 0] } } s.heap.objs.size (s.heap.push (frS w)).objs.size
      (fun h2 => ∃ c, SetR w h2 s.heap.objs.size (fun j => decide (j ∈ ns)) c ∧ c ≤ ns.length ∧ ∀ b o, s.heap.get? b = some o → h2.get? b = some o) := by
  intro R hR
  have isz : items.size = ns.length := by rw [← Array.length_toList]; exact IntsAre.length hit
  obtain ⟨o0, o1, _⟩ := id hl
  have lt := Heap.lt_size o1
  have h3 : B.in1.handled = none := by simp [hb]
  have at1 : (s.heap.push (frS w)).get? s.heap.objs.size = some (frS w) := Heap.get?_push_size _ rfl
  have nI : l ≠ (s.heap.push (frS w)).objs.size := by rw [Heap.size_push]; exact Nat.ne_of_lt (Nat.lt_succ_of_lt lt)
  have nS : s.heap.objs.size ∉ [(s.heap.push (frS w)).objs.size, l] := by
    rw [Heap.size_push]
    simp only [List.mem_cons, List.mem_singleton, List.not_mem_nil, or_false, not_or]
    exact ⟨Nat.ne_of_lt (Nat.lt_succ_self _), Nat.ne_of_gt lt⟩
  have val : ∀ (i : Nat) (v : Value), items[i]? = some v → ∃ k t, ns[i]? = some k ∧ v = .int k t := fun i v hv => by
    have hi : i < ns.length := by rw [← isz]; exact (Array.getElem?_eq_some_iff.mp hv).1
    obtain ⟨t, e⟩ := PyProof.Rows.IntsAre.int_at hit i v (by rw [Array.getElem?_toList]; exact hv)
    refine ⟨ns[i], t, List.getElem?_eq_getElem hi, ?_⟩
    rw [e, List.getD_eq_getElem?_getD, List.getElem?_eq_getElem hi]
    rfl
  have o5 : (s.heap.push (frS w)).IsList l items := hl.push _
  refine set_update_ints ((Walks.list h3 _ l nI items).toS) s.heap.objs.size nS ns isz few val (items.size - 0) 0 _ (by omega) (Nat.zero_le _) ⟨⟨_, Heap.get?_push_size _ rfl, rfl, rfl⟩, (o5.push _)⟩ ?_ ?_
  · exact ⟨0, Nat.le_refl 0, setR_new_at (Heap.get?_push_of_some _ at1)⟩
  · intro s2 c hm hc R2
    obtain ⟨h2, g2, d2, k2, os2⟩ := s2
    have eg : g2 = s.gens := hm.gens
    have ed : d2 = s.drawn := hm.drawn
    have eo : os2 = s.os := hm.os
    subst eg; subst ed; subst eo
    rw [isz] at hc
    refine hR _ _ ⟨c, R2, hc, fun b o e => ?_⟩
    have b0 : b < s.heap.objs.size := Heap.lt_size e
    refine hm.heap b o ?_ (Heap.get?_push_of_some _ (Heap.get?_push_of_some _ e))
    rw [Heap.size_push]
    simp only [List.mem_cons, List.mem_singleton, List.not_mem_nil, or_false, not_or]
    exact ⟨Nat.ne_of_lt b0, Nat.ne_of_lt (Nat.lt_succ_of_lt b0)⟩

theorem call_set_T {l : Addr} {items : Array Value} {Fin : Heap → Prop} {Q : Value → Shared → Prop} (hl : s.heap.IsTuple l items) (hh : A.handled = none)
    (hloop : ∀ B : Around, B.handled = none → B.units ≤ A.units + 3 → LoopOk P w B { s with heap := (s.heap.push (frS w)).push { cls := .type "tuple_iterator", data := .fields #[.ref l, .int 0 0] } } s.heap.objs.size (s.heap.push (frS w)).objs.size Fin)
    (hq : ∀ h2 tk, Fin h2 → Q (.ref s.heap.objs.size) { s with heap := h2, toks := tk }) : wpAny (model P w) A (call (.type "set") [.ref l]) Q E s := by
  obtain ⟨c0, tl, hmro⟩ := F.called_set.mro
  have x1 := F.called_set.made
  have x2 := F.called_set.sub
  refine wpAny_call (codeAny_of_tree ?_)
  show wpAny _ _ (callAny (.type "set") _) _ _ _
  refine wpAny_pure ⟨Code.quiet_builtin _ (by decide +kernel), codeAny_builtin F.entry_type_call ?_⟩
  rw [Around.under_plain (weight_type_call_type "set" [.ref l] []) rfl]
  have x3 := F.called_set.notType
  have x4 := F.called_set.canCreate
  have x5 := F.typeCall_set_1 (.ref l)
  repeat (any_goals (first | assumption | wp_step))
  refine codeAny_mono (code_set_led1 (.ref l) (E := E) (Q₁ := fun ob s1 => ob = .ref s.heap.objs.size ∧ s1 = { s with heap := s.heap.push (frS w) }) ⟨rfl, rfl⟩) fun r s1 hr => ?_
  cases r with
  | error e => exact hr
  | ok fl =>
    cases fl with
    | ret ob =>
      obtain ⟨rfl, rfl⟩ := hr
      have at1 : (s.heap.push (frS w)).get? s.heap.objs.size = some (frS w) := Heap.get?_push_size _ rfl
      have ty1 : Shared.TypeIs { s with heap := s.heap.push (frS w) } (.ref s.heap.objs.size) "set" := ⟨_, at1, rfl⟩
      have x6 := F.called_set.init.lookup
      have x7 := F.called_set.init.bind (.ref s.heap.objs.size)
      repeat (any_goals (first | assumption | wp_step))
      refine codeAny_mono (codeAny_call_builtin (R := wants (fun r s2 => r = .none ∧ ∃ h2 tk, s2 = { s with heap := h2, toks := tk } ∧ Fin h2) E) F.called_set.init.plain F.entry_set_init (check_set_init_1 ty1 ?_)) fun r2 s2 hr2 => ?_
      · obtain ⟨⟨oc, od, ot, os⟩, o1, o2, nl, o3⟩ := hl
        simp only at o2 o3
        subst o2; subst o3
        have o4 : (s.heap.push (frS w)).get? l = some { cls := .type "tuple", dict := od, data := .seq items nl, slots := os } := Heap.get?_push_of_some _ o1
        have x8 := F.sub_tuple_set
        have x9 := F.sub_tuple_frozenset
        have xa : (Value.type "tuple" == Value.type "dict") = false := by decide
        have o5 : (s.heap.push (frS w)).IsTuple l items := ⟨_, o4, rfl, nl, rfl⟩
        unfold Builtin.«set.__init__» noKeywords Builtin.Frozenset.updateFrom
        generalize ePI : pyIter = pit
        wp_walk
        subst ePI
        refine wpAny_pyIter_tuple o5 ?_
        refine wpAny_bind (wpAny_runValue ?_)
        refine hloop _ (by simp [hh]) (by simp only [Around.in1_units]; omega) _ fun h2 tk hf => ?_
        show wpAny _ _ _ _ _ _
        refine wpAny_pure ?_
        show wpAny _ _ (ret Value.none) _ _ _
        exact wpAny_pure ⟨rfl, h2, tk, rfl, hf⟩
      · cases r2 with
        | error e => exact hr2
        | ok fl2 =>
          cases fl2 with
          | ret r =>
            obtain ⟨rfl, h2, tk, rfl, hf⟩ := hr2
            repeat (any_goals (first | assumption | wp_step))
            exact hq _ _ hf
          | _ => exact hr2.elim
    | _ => exact hr.elim
/-- the loop over nested keys -/
theorem loopN_T {l : Addr} {items : Array Value} (hl : s.heap.IsTuple l items) {B : Around} (hb : B.handled = none) (hu : B.units + 9 < cLine) (ks : List (Addr × NestedKey)) (hit : items.toList = ks.map fun p => Value.ref p.1)
    (hk : ∀ p ∈ ks, IsN s.heap p.2 p.1) (few : fewN ks) :
    LoopOk P w B { s with heap := (s.heap.push (frS w)).push { cls := .type "tuple_iterator", data := .fields #[.ref l, .int 0 0] } } s.heap.objs.size (s.heap.push (frS w)).objs.size
      (fun h2 => ∃ L es ep t, SetN w h2 s.heap.objs.size L es ep t ∧ Had ks ks.length L ∧ ∀ b o, s.heap.get? b = some o → h2.get? b = some o) := by
  intro R hR
  have isz : items.size = ks.length := by rw [← Array.length_toList, hit, List.length_map]
  obtain ⟨o0, o1, _⟩ := id hl
  have lt := Heap.lt_size o1
  have h3 : B.in1.handled = none := by simp [hb]
  have at1 : (s.heap.push (frS w)).get? s.heap.objs.size = some (frS w) := Heap.get?_push_size _ rfl
  have nI : l ≠ (s.heap.push (frS w)).objs.size := by rw [Heap.size_push]; exact Nat.ne_of_lt (Nat.lt_succ_of_lt lt)
  have nS : s.heap.objs.size ∉ [(s.heap.push (frS w)).objs.size, l] := by
    rw [Heap.size_push]
    simp only [List.mem_cons, List.mem_singleton, List.not_mem_nil, or_false, not_or]
    exact ⟨Nat.ne_of_lt (Nat.lt_succ_self _), Nat.ne_of_gt lt⟩
  have val : ∀ (i : Nat) (v : Value), items[i]? = some v → ∃ p, ks[i]? = some p ∧ v = .ref p.1 := fun i v hv => by
    have q : items.toList[i]? = some v := by rw [Array.getElem?_toList]; exact hv
    rw [hit, List.getElem?_map] at q
    cases e : ks[i]? with
    | none => rw [e] at q; cases q
    | some p => rw [e] at q; exact ⟨p, rfl, (Option.some.inj q).symm⟩
  have free : ∀ b, s.heap.objs.size ≤ b → s.heap.get? b = none := fun b hb => by
    cases q : s.heap.get? b with
    | none => rfl
    | some o => exact absurd (Nat.lt_of_lt_of_le (Heap.lt_size q) hb) (Nat.lt_irrefl _)
  have o5 : (s.heap.push (frS w)).IsTuple l items := hl.push _
  refine update_in ((Walks.tuple h3 _ l nI items).toS) s.heap.objs.size nS ks isz few val s.heap hk (free _ (Nat.le_refl _)) (fun b hb => free b (by
      rw [List.mem_singleton.mp hb, Heap.size_push]
      exact Nat.le_succ _)) (by simp only [Around.in1_units]; omega) (items.size - 0) 0 _ (by omega) (Nat.zero_le _)
    ⟨⟨_, Heap.get?_push_size _ rfl, rfl, rfl⟩, (o5.push _)⟩ (fun b o e => Heap.get?_push_of_some _ (Heap.get?_push_of_some _ e)) ?_ ?_
  · exact ⟨[], #[], 0, _, setN_new (Heap.get?_push_of_some _ at1), ⟨fun p h => (nomatch h), fun p h => (by simp at h)⟩⟩
  · intro s2 L es ep t hm R2 g q
    obtain ⟨h2, g2, d2, k2, os2⟩ := s2
    have eg : g2 = s.gens := hm.gens
    have ed : d2 = s.drawn := hm.drawn
    have eo : os2 = s.os := hm.os
    subst eg; subst ed; subst eo
    rw [isz] at g
    exact hR _ _ ⟨L, es, ep, t, R2, g, q⟩
/-- the loop over whole numbers -/
theorem loopI_T {l : Addr} {items : Array Value} (hl : s.heap.IsTuple l items) {B : Around} (hb : B.handled = none) (ns : List Int) (hit : IntsAre items.toList ns) (few : ns.length + 1 < scanBound) :
    LoopOk P w B { s with heap := (s.heap.push (frS w)).push { cls := .type "tuple_iterator", data := .fields #[.ref l, .int 0 0] } } s.heap.objs.size (s.heap.push (frS w)).objs.size
      (fun h2 => ∃ c, SetR w h2 s.heap.objs.size (fun j => decide (j ∈ ns)) c ∧ c ≤ ns.length ∧ ∀ b o, s.heap.get? b = some o → h2.get? b = some o) := by
  intro R hR
  have isz : items.size = ns.length := by rw [← Array.length_toList]; exact IntsAre.length hit
  obtain ⟨o0, o1, _⟩ := id hl
  have lt := Heap.lt_size o1
  have h3 : B.in1.handled = none := by simp [hb]
  have at1 : (s.heap.push (frS w)).get? s.heap.objs.size = some (frS w) := Heap.get?_push_size _ rfl
  have nI : l ≠ (s.heap.push (frS w)).objs.size := by rw [Heap.size_push]; exact Nat.ne_of_lt (Nat.lt_succ_of_lt lt)
  have nS : s.heap.objs.size ∉ [(s.heap.push (frS w)).objs.size, l] := by
    rw [Heap.size_push]
    simp only [List.mem_cons, List.mem_singleton, List.not_mem_nil, or_false, not_or]
    exact ⟨Nat.ne_of_lt (Nat.lt_succ_self _), Nat.ne_of_gt lt⟩
  have val : ∀ (i : Nat) (v : Value), items[i]? = some v → ∃ k t, ns[i]? = some k ∧ v = .int k t := fun i v hv => by
    have hi : i < ns.length := by rw [← isz]; exact (Array.getElem?_eq_some_iff.mp hv).1
    obtain ⟨t, e⟩ := PyProof.Rows.IntsAre.int_at hit i v (by rw [Array.getElem?_toList]; exact hv)
    refine ⟨ns[i], t, List.getElem?_eq_getElem hi, ?_⟩
    rw [e, List.getD_eq_getElem?_getD, List.getElem?_eq_getElem hi]
    rfl
  have o5 : (s.heap.push (frS w)).IsTuple l items := hl.push _
  refine set_update_ints ((Walks.tuple h3 _ l nI items).toS) s.heap.objs.size nS ns isz few val (items.size - 0) 0 _ (by omega) (Nat.zero_le _) ⟨⟨_, Heap.get?_push_size _ rfl, rfl, rfl⟩, (o5.push _)⟩ ?_ ?_
  · exact ⟨0, Nat.le_refl 0, setR_new_at (Heap.get?_push_of_some _ at1)⟩
  · intro s2 c hm hc R2
    obtain ⟨h2, g2, d2, k2, os2⟩ := s2
    have eg : g2 = s.gens := hm.gens
    have ed : d2 = s.drawn := hm.drawn
    have eo : os2 = s.os := hm.os
    subst eg; subst ed; subst eo
    rw [isz] at hc
    refine hR _ _ ⟨c, R2, hc, fun b o e => ?_⟩
    have b0 : b < s.heap.objs.size := Heap.lt_size e
    refine hm.heap b o ?_ (Heap.get?_push_of_some _ (Heap.get?_push_of_some _ e))
    rw [Heap.size_push]
    simp only [List.mem_cons, List.mem_singleton, List.not_mem_nil, or_false, not_or]
    exact ⟨Nat.ne_of_lt b0, Nat.ne_of_lt (Nat.lt_succ_of_lt b0)⟩

end
end SN

namespace DL
open PySem PySem.Spec PyProof.Rows L2 SN
/-! ### each once, sorted -/
open PySem.W in
mutual
theorem toks_one : ∀ (k j : NestedKey) (r r2 : List (Int ⊕ List Nat)), numK k = true → numK j = true → alike (keyD k) (keyD j) = true → keyToks (keyD k) ++ r = keyToks (keyD j) ++ r2 → k = j ∧ r = r2
  | .num a, .num b, r, r2, _, _, _, h => by
    simp only [keyD, keyToks, List.cons_append, List.nil_append, List.cons.injEq, Sum.inl.injEq] at h
    exact ⟨by rw [h.1], h.2⟩
  | .tup ks, .tup js, r, r2, c, d, al, h => by
    simp only [keyD, keyToks] at h
    simp only [keyD, alike] at al
    obtain ⟨e1, e2⟩ := toks_all ks js r r2 (by simpa [numK] using c) (by simpa [numK] using d) al h
    exact ⟨by rw [e1], e2⟩
  | .num a, .tup js, _, _, _, _, al, _ => by simp [keyD, alike] at al
  | .tup ks, .num b, _, _, _, _, al, _ => by simp [keyD, alike] at al
  | .none, _, _, _, c, _, _, _ => by simp [numK] at c
  | .text _, _, _, _, c, _, _, _ => by simp [numK] at c
  | _, .none, _, _, _, c, _, _ => by simp [numK] at c
  | _, .text _, _, _, _, c, _, _ => by simp [numK] at c
theorem toks_all : ∀ (ks js : List NestedKey) (r r2 : List (Int ⊕ List Nat)), numKs ks = true → numKs js = true → alikeAll (keyDs ks) (keyDs js) = true → keyToksAll (keyDs ks) ++ r = keyToksAll (keyDs js) ++ r2 → ks = js ∧ r = r2
  | [], [], r, r2, _, _, _, h => by
    simp only [keyDs, keyToksAll, List.cons_append, List.nil_append, List.cons.injEq] at h
    exact ⟨rfl, h.2⟩
  | k :: ks, j :: js, r, r2, c, d, al, h => by
    simp only [numKs, Bool.and_eq_true] at c d
    simp only [keyDs, alikeAll, Bool.and_eq_true] at al
    simp only [keyDs, keyToksAll, List.cons_append, List.append_assoc, List.cons.injEq] at h
    obtain ⟨e1, e2⟩ := toks_one k j _ _ c.1 d.1 al.1 h.2
    obtain ⟨e3, e4⟩ := toks_all ks js r r2 c.2 d.2 al.2 e2
    exact ⟨by rw [e1, e3], e4⟩
  | [], _ :: _, _, _, _, _, _, h => by simp [keyDs, keyToksAll] at h
  | _ :: _, [], _, _, _, _, _, h => by simp [keyDs, keyToksAll] at h
end
open PySem.W in
theorem anti {k j : NestedKey} (c : numK k = true) (d : numK j = true) (al : alike (keyD k) (keyD j) = true) (h1 : dataLe false id (keyD k) (keyD j) = true) (h2 : dataLe false id (keyD j) (keyD k) = true) : k = j := by
  have e1 : (listOrd itemOrd).blt (keyToks (keyD j)) (keyToks (keyD k)) = false := by
    have h1 : (!(listOrd itemOrd).blt (keyToks (keyD j)) (keyToks (keyD k))) = true := h1
    simpa using h1
  have e2 : (listOrd itemOrd).blt (keyToks (keyD k)) (keyToks (keyD j)) = false := by
    have h2 : (!(listOrd itemOrd).blt (keyToks (keyD k)) (keyToks (keyD j))) = true := h2
    simpa using h2
  have e := (listOrd itemOrd).total _ _ e2 e1
  exact (toks_one k j [] [] c d al (by rw [e])).1
/-- two arrangements of keys, sorted -/
theorem sort_perm {ks js : List NestedKey} (p : ks.Perm js) (c : ∀ k ∈ ks, numK k = true) (al : PySem.W.AllAlike (ks.map keyD)) : srtD (ks.map keyD) = srtD (js.map keyD) := by
  have tl := PySem.W.sortLe_total (listOrd itemOrd) false fun d : PyData => PySem.W.keyToks d
  have s1 : (srtD (ks.map keyD)).Pairwise (fun a b => PySem.W.dataLe false id a b = true) := PySem.W.sort_pairwise tl _
  have s2 : (srtD (js.map keyD)).Pairwise (fun a b => PySem.W.dataLe false id a b = true) := PySem.W.sort_pairwise tl _
  have pp : (srtD (ks.map keyD)).Perm (srtD (js.map keyD)) := (List.mergeSort_perm _ _).trans ((p.map _).trans (List.mergeSort_perm _ _).symm)
  refine List.Perm.eq_of_pairwise (le := fun a b => PySem.W.dataLe false id a b = true) (fun a b ha hb h1 h2 => ?_) s1 s2 pp
  have ha' := (List.mergeSort_perm (ks.map keyD) _).mem_iff.mp ha
  have hb' := (List.mergeSort_perm (js.map keyD) _).mem_iff.mp hb
  obtain ⟨k, hk, rfl⟩ := List.mem_map.mp ha'
  obtain ⟨j, hj, rfl⟩ := List.mem_map.mp hb'
  have hj' := p.mem_iff.mpr hj
  have := al _ (List.mem_map.mpr ⟨k, hk, rfl⟩) _ (List.mem_map.mpr ⟨j, hj', rfl⟩)
  rw [anti (c k hk) (c j hj') this h1 h2]
noncomputable section
open Classical in
/-- each once, where it first stands -/
def unl : List PyData → List PyData
  | [] => []
  | x :: r => x :: (unl r).filter fun y => decide (y ≠ x)
open Classical in
theorem mem_unl {d : PyData} : ∀ {ds : List PyData}, d ∈ unl ds ↔ d ∈ ds
  | [] => by simp [unl]
  | x :: r => by
    simp only [unl, List.mem_cons, List.mem_filter, mem_unl (ds := r), decide_eq_true_eq]
    constructor
    · rintro (h | ⟨h, _⟩)
      · exact .inl h
      · exact .inr h
    · intro h
      by_cases e : d = x
      · exact .inl e
      · exact .inr ⟨h.resolve_left e, e⟩
open Classical in
theorem nodup_unl : ∀ ds : List PyData, (unl ds).Nodup
  | [] => .nil
  | x :: r => by
    rw [unl, List.nodup_cons]
    exact ⟨by simp, (nodup_unl r).filter _⟩
open Classical in
theorem unl_len : ∀ ds : List PyData, (unl ds).length ≤ ds.length
  | [] => Nat.le_refl _
  | x :: r => by
    rw [unl, List.length_cons, List.length_cons]
    have := List.length_filter_le (fun y => decide (y ≠ x)) (unl r)
    have := unl_len r
    omega
open Classical in
theorem unl_of_nodup : ∀ {ds : List PyData}, ds.Nodup → unl ds = ds
  | [], _ => rfl
  | x :: r, h => by
    obtain ⟨h1, h2⟩ := List.nodup_cons.mp h
    rw [unl, unl_of_nodup h2]
    congr 1
    rw [List.filter_eq_self]
    intro y hy
    exact decide_eq_true fun e => h1 (e ▸ hy)
/-- what set(..) takes here: whole numbers, or tuples of numbers and such tuples, at most 63 unlike ones -/
def SetOk (ds : List PyData) : Prop := (unl ds).length < 64 ∧ ((∃ is : List Int, ds = is.map .int ∧ is.length < 4000) ∨ ∃ ks : List NestedKey, ds = ks.map keyD ∧ ∀ k ∈ ks, (∃ l, k = .tup l) ∧ k.depth ≤ 8 ∧ numK k = true)
open Classical in
def srtsetV (m : Bool) (v : Vl) : M Vl := fun S => match seqD S v with
  | some ds => if SetOk ds ∧ SrtOk (unl ds) then newL m ((srtD (unl ds)).map .d) S else .bad
  | none => .bad
open Classical in
/-- what len(set(..)) takes: as set(..), or texts -/
def lensetV (v : Vl) : M Vl := fun S => match seqD S v with
  | some ds => if SetOk ds ∨ ∃ zs : List Str, ds = zs.map .str ∧ zs.length < 4000 then .ok (.d (.int (unl ds).length)) S else .bad
  | none => .bad
end
end DL

namespace DL
open PySem PySem.Spec PyProof.Rows L2
noncomputable section

/-! ### the text, as it is run here -/
mutual
inductive Tg | nm (i : Nat) | tp (ts : Tgs)
inductive Tgs | nil | cons (t : Tg) (r : Tgs)
end
mutual
inductive E
  | var (i : Nat) | cst (x : PyData) | glob (g : Str)
  | tup (es : Es) | lst (m : Bool) (es : Es)
  | bin (o : Bop) (a b : E) | neg (a : E)
  | cmp (o : Cop) (a b : E) | chain (o p : Cop) (a b c : E)
  | band (a b : E) | bor (a b : E) | bnot (a : E) | ife (c a b : E)
  | ix (a i : E) | sl (m : Bool) (a : E) (lo hi : Eo)
  | comp (m : Bool) (own : List (Str × Nat)) (tg : Tg) (it : It) (c : Eo) (e : E)
  | call (p : Bool) (f : Str) (es : Es)
  | bi (b : Bi) (es : Es) | mt (m : Mt) (o : E) (es : Es) | isi (a : E) (T : String)
  | disp (ks : List Str) (es : Es) | dnew | lrng1 (m : Bool) (a : E) | lrng2 (m : Bool) (a b : E) | lrev (m : Bool) (a : E) | rep (a : E)
  | srtset (m : Bool) (a : E) | lenset (a : E) | revT (a : E)
  | frz (a : E)
  | dnewT | disp1 (k v : E) | zipT (a b : E)
  | fld (c : Str) (o : E) (f : Str) | meth (c : Str) (o : E) (m : Str) (es : Es) | new (c : Str) (es : Es)
inductive Es | nil | cons (e : E) (r : Es)
inductive Eo | no | yes (e : E)
inductive It | val (e : E) | rng1 (a : E) | rng2 (a b : E) | rng3 (a b c : E) | enum (e : E) | zip (a b : E) | rev (e : E)
end
inductive Ta | tg (t : Tg) | sub (o i : E) | fld (c : Str) (o : E) (f : Str)
mutual
inductive St
  | asg (t : Ta) (e : E) | par (is : List Nat) (es : Es) | expr (e : E) | ret (e : E) | retN
  | ife (c : E) (a b : Sts) | fr (t : Tg) (it : It) (b : Sts) | whl (c : E) (b : Sts) | gh (i : Nat) | nev
inductive Sts | nil | cons (s : St) (r : Sts)
end

/-! ### how it is run -/
structure Pg where
  glob : Str → Option PyData
  fn : Str → List Vl → M Vl
def toB (v : Vl) : M Bool := match v with
  | .d (.bool b) => pur b
  | _ => bad
mutual
def setTg : Tg → Vl → Rho → Option Rho
  | .nm i, v, ρ => if i < ρ.length then some (ρ.set i (some v)) else none
  | .tp ts, v, ρ => match v with
    | .d (.tuple xs) => setTgs ts xs ρ
    | _ => none
def setTgs : Tgs → List PyData → Rho → Option Rho
  | .nil, [], ρ => some ρ
  | .cons t r, x :: xs, ρ => (setTg t (.d x) ρ).bind (setTgs r xs)
  | _, _, _ => none
end
def wipeR (ρ : Rho) : List Nat → Rho
  | [] => ρ
  | v :: vs => (wipeR ρ vs).set v none
def noEx {α : Type} (m : M α) : M α := fun S => match m S with
  | .ex _ _ _ => .bad
  | r => r
/-- what a loop goes over: the items; the mutable list that must stand as it is -/
structure Src where
  xs : List Vl
  g : Option (Nat × List Vl)
def Src.ok (s : Src) (S : Store) : Prop := match s.g with
  | none => True
  | some (n, ys) => S[n]? = some (.lst ys)
def guard (s : Src) : M Unit := open Classical in fun S => if s.ok S then .ok () S else .bad
def compGo (s : Src) (f : Vl → M (Option Vl)) : List Vl → List Vl → M (List Vl)
  | [], acc => bnd (guard s) fun _ => pur acc
  | x :: r, acc => bnd (guard s) fun _ => bnd (f x) fun o => match o with
    | none => compGo s f r acc
    | some y => if acc.length < sizeLine then compGo s f r (acc ++ [y]) else bad
def compF (vs : List Nat) (t : Tg) (cnd : Option (Rho → M Bool)) (el : Rho → M Vl) (ρ : Rho) : Vl → M (Option Vl) := fun x => match setTg t x (wipeR ρ vs) with
  | none => bad
  | some ρ1 => match cnd with
    | none => bnd (el ρ1) fun y => pur (some y)
    | some c => bnd (c ρ1) fun k => if k = true then bnd (el ρ1) fun y => pur (some y) else pur none
def bits (s : Str) : List Vl := s.cps.toList.map fun c => .d (.str ⟨#[c]⟩)
def srcV (v : Vl) : M Src := fun S => match v with
  | .d (.tuple xs) => .ok ⟨xs.map .d, none⟩ S
  | .d (.list xs) => .ok ⟨xs.map .d, none⟩ S
  | .d (.str z) => .ok ⟨bits z, none⟩ S
  | .loc n => (match S[n]? with
    | some (.lst xs) => .ok ⟨xs, some (n, xs)⟩ S
    | _ => .bad)
  | _ => .bad
def rngV (lo hi : Int) : M Src := fun S => if -(2 ^ 62) ≤ lo ∧ lo < 2 ^ 62 ∧ -(2 ^ 62) ≤ hi ∧ hi < 2 ^ 62 then .ok ⟨(List.range (hi - lo).toNat).map fun (i : Nat) => Vl.d (.int (lo + (i : Int))), none⟩ S else .bad
/-- range downwards: the step is -1 -/
def rngD (hi lo st : Int) : M Src := fun S => if st = -1 ∧ -(2 ^ 62) ≤ lo ∧ lo < 2 ^ 62 ∧ -(2 ^ 62) ≤ hi ∧ hi < 2 ^ 62 then .ok ⟨(List.range (hi - lo).toNat).map fun (i : Nat) => Vl.d (.int (hi + (i : Int) * (-1))), none⟩ S else .bad
def enumL (xs : List PyData) : List Vl := xs.zipIdx.map fun p => .d (.tuple [.int p.2, p.1])
def guardOf (S : Store) (v : Vl) : Option (Nat × List Vl) := match v with
  | .loc n => match S[n]? with
    | some (.lst xs) => some (n, xs)
    | _ => none
  | _ => none
def enumV (v : Vl) : M Src := fun S => match seqD S v with
  | some xs => .ok ⟨enumL xs, guardOf S v⟩ S
  | none => .bad
def zipV (v w : Vl) : M Src := fun S => match seqD S v, seqD S w, guardOf S v, guardOf S w with
  | some xs, some ys, none, none => .ok ⟨(List.zip xs ys).map fun p => .d (.tuple [p.1, p.2]), none⟩ S
  | _, _, _, _ => .bad
def revV (v : Vl) : M Src := fun S => match seqD S v with
  | some xs => .ok ⟨xs.reverse.map .d, guardOf S v⟩ S
  | none => .bad
def tyD : PyData → String
  | .none => "NoneType" | .bool _ => "bool" | .int _ => "int" | .str _ => "str" | .list _ => "list" | .tuple _ => "tuple" | .dict _ => "dict"
def isiV (v : Vl) (T : String) : M Vl := fun S => match v with
  | .d x => .ok (.d (.bool (tyD x == T || (tyD x == "bool" && T == "int")))) S
  | .loc n => (match S[n]? with
    | some (.lst _) => .ok (.d (.bool (tyD (.list []) == T || (tyD (.list []) == "bool" && T == "int")))) S
    | _ => .bad)
  | _ => .bad
def callP (P : Pg) (p : Bool) (f : Str) (vs : List Vl) : M Vl := fun S =>
  if p = true then (match pds vs with
    | some ds => (match P.fn f (ds.map .d) [] with
      | .ok (.d x) _ => .ok (.d x) S
      | .ex c fs _ => .ex c fs S
      | _ => .bad)
    | none => .bad)
  else P.fn f vs S
/-- repr(..) -/
def repV (a : Vl) : M Vl := fun S => match asD S a with
  | some d => if d.showable = true ∧ d.depth ≤ 64 ∧ d.shown.length ≤ sizeLine then .ok (.d (.str d.shown)) S else .bad
  | none => .bad
/-- list(reversed(..)) -/
def lrngV (m : Bool) (lo hi : Int) : M Vl := fun S => if -(2 ^ 62) ≤ lo ∧ lo < 2 ^ 62 ∧ -(2 ^ 62) ≤ hi ∧ hi < 2 ^ 62 ∧ (hi - lo).toNat ≤ 2 ^ 24 then newL m ((List.range (hi - lo).toNat).map fun i : Nat => Vl.d (.int (lo + (i : Nat)))) S else .bad
def revL (m : Bool) (v : Vl) : M Vl := fun S => match rdL S v with
  | some xs => newL m xs.reverse S
  | none => .bad
def dispSet (n : Nat) (ks : List Str) (vs : List Vl) : M Vl := fun S =>
  match S[n]? with
  | some (.dk []) => if ks.length = vs.length ∧ ks.Nodup then .ok (.loc n) (S.set n (.dk ((ks.map Sum.inr).zip vs))) else .bad
  | _ => .bad
def zipTV (v w : Vl) : M Vl := fun S => match (rdL S v).bind pds, (rdL S w).bind pds with
  | some xs, some ys => .ok (.d (.tuple ((List.zip xs ys).map fun p => .tuple [p.1, p.2]))) S
  | _, _ => .bad
def disp1V (n : Nat) (k v : Vl) : M Vl := fun S => match S[n]?, k with
  | some (.dd m []), .d x => (match dataKey x with
    | some (.tup ks) => if m = n ∧ (NestedKey.tup ks).depth ≤ 8 then .ok (.loc n) (S.set n (.dd n [(.tup ks, v)])) else .bad
    | _ => .bad)
  | _, _ => .bad
/-! instances -/
def lookF (fs : List (Str × Vl)) (f : Str) : Option Vl := (fs.find? fun p => decide (p.1 = f)).map (·.2)
def putF : List (Str × Vl) → Str → Vl → List (Str × Vl)
  | [], f, v => [(f, v)]
  | p :: r, f, v => if p.1 = f then (p.1, v) :: r else p :: putF r f v
def fldV (c f : Str) (o : Vl) : M Vl := fun S => match o with
  | .loc n => (match S[n]? with
    | some (.ins c' fs) => if c' = c then ofO (lookF fs f) S else .bad
    | _ => .bad)
  | _ => .bad
def setFld (c : Str) (o : Vl) (f : Str) (v : Vl) : M Unit := fun S => match o with
  | .loc n => (match S[n]? with
    | some (.ins c' fs) => if c' = c ∧ fs.length < 900 then .ok () (S.set n (.ins c (putF fs f v))) else .bad
    | _ => .bad)
  | _ => .bad
def mkey (c m : Str) : Str := c ++ "." ++ m
/-- an instance of the class that has no field m -/
def insOk (c m : Str) (o : Vl) (S : Store) : Bool := match o with
  | .loc n => (match S[n]? with
    | some (.ins c' fs) => decide (c' = c) && (lookF fs m).isNone
    | _ => false)
  | _ => false
def methV (P : Pg) (c m : Str) (o : Vl) (as : List Vl) : M Vl := P.fn (mkey c m) (o :: as)
def newV (P : Pg) (c : Str) (as : List Vl) : M Vl := fun S => bnd (P.fn (mkey c "__init__") (.loc S.length :: as)) (fun v => match v with
  | .d .none => pur (.loc S.length)
  | _ => bad) (S ++ [.ins c []])
def partI (v : Vl) : M (Option Int) := match v with
  | .d (.int i) => pur (some i)
  | _ => bad
/-- t[::-1] -/
def revTV (v : Vl) : M Vl := match v with
  | .d (.tuple xs) => pur (.d (.tuple xs.reverse))
  | _ => bad
mutual
def evE (P : Pg) : E → Rho → M Vl
  | .var i, ρ => match ρ[i]? with
    | some (some v) => pur v
    | _ => bad
  | .cst x, _ => pur (.d x)
  | .glob g, _ => match P.glob g with
    | some x => pur (.d x)
    | none => bad
  | .tup es, ρ => bnd (evEs P es ρ) newT
  | .lst m es, ρ => bnd (evEs P es ρ) (newL m)
  | .bin o a b, ρ => bnd (evE P a ρ) fun x => bnd (evE P b ρ) fun y => binV o x y
  | .neg a, ρ => bnd (evE P a ρ) fun x => match x with
    | .d (.int i) => pur (.d (.int (-i)))
    | _ => bad
  | .cmp o a b, ρ => bnd (evE P a ρ) fun x => bnd (evE P b ρ) fun y => cmpV o x y
  | .chain o p a b c, ρ => bnd (evE P a ρ) fun x => bnd (evE P b ρ) fun y => bnd (bnd (cmpV o x y) toB) fun k =>
      if k = true then bnd (evE P c ρ) fun z => cmpV p y z else pur (.d (.bool false))
  | .band a b, ρ => bnd (bnd (evE P a ρ) toB) fun k => if k = true then evE P b ρ else pur (.d (.bool false))
  | .bor a b, ρ => bnd (bnd (evE P a ρ) toB) fun k => if k = true then pur (.d (.bool true)) else evE P b ρ
  | .bnot a, ρ => bnd (bnd (evE P a ρ) toB) fun k => pur (.d (.bool (!k)))
  | .ife c a b, ρ => bnd (bnd (evE P c ρ) toB) fun k => if k = true then evE P a ρ else evE P b ρ
  | .ix a i, ρ => bnd (evE P a ρ) fun x => bnd (evE P i ρ) fun y => ixV x y
  | .sl m a lo hi, ρ => bnd (evE P a ρ) fun x => bnd (evEo P lo ρ) fun l => bnd (evEo P hi ρ) fun h => slV m x l h
  | .comp m own tg it c e, ρ => bnd (evIt P it ρ) fun s => bnd (noEx (compGo s (compF (own.map (·.2)) tg (match c with
      | .no => none
      | .yes c => some fun ρ1 => bnd (evE P c ρ1) toB) (fun ρ1 => evE P e ρ1) ρ) s.xs [])) (newL m)
  | .call p f es, ρ => bnd (evEs P es ρ) (callP P p f)
  | .bi b es, ρ => bnd (evEs P es ρ) (biV b)
  | .mt m o es, ρ => bnd (evE P o ρ) fun x => fun S => if isTy S m.ty x = true then bnd (evEs P es ρ) (mtV m x) S else .bad
  | .isi a T, ρ => bnd (evE P a ρ) fun x => isiV x T
  | .disp ks es, ρ => fun S => bnd (evEs P es ρ) (dispSet S.length ks) (S ++ [.dk []])
  | .dnew, _ => fun S => .ok (.loc S.length) (S ++ [.dk []])
  | .lrev m a, ρ => bnd (evE P a ρ) (revL m)
  | .lrng1 m a, ρ => bnd (evE P a ρ) fun x => match x with
    | .d (.int i) => lrngV m 0 i
    | _ => bad
  | .lrng2 m a b, ρ => bnd (evE P a ρ) fun x => bnd (evE P b ρ) fun y => match x, y with
    | .d (.int i), .d (.int j) => lrngV m i j
    | _, _ => bad
  | .rep a, ρ => bnd (evE P a ρ) repV
  | .srtset m a, ρ => bnd (evE P a ρ) (srtsetV m)
  | .lenset a, ρ => bnd (evE P a ρ) lensetV
  | .revT a, ρ => bnd (evE P a ρ) revTV
  | .frz a, ρ => bnd (evE P a ρ) frzV
  | .dnewT, _ => fun S => .ok (.loc S.length) (S ++ [.dd S.length []])
  | .disp1 k v, ρ => fun S => bnd (bnd (evE P k ρ) fun x => bnd (evE P v ρ) fun y => disp1V S.length x y) pur (S ++ [.dd S.length []])
  | .zipT a b, ρ => bnd (evE P a ρ) fun x => bnd (evE P b ρ) fun y => zipTV x y
  | .fld c o f, ρ => bnd (evE P o ρ) (fldV c f)
  | .meth c o m es, ρ => bnd (evE P o ρ) fun x => fun S => if insOk c m x S = true then bnd (evEs P es ρ) (methV P c m x) S else .bad
  | .new c es, ρ => bnd (evEs P es ρ) (newV P c)
def evEs (P : Pg) : Es → Rho → M (List Vl)
  | .nil, _ => pur []
  | .cons e r, ρ => bnd (evE P e ρ) fun x => bnd (evEs P r ρ) fun xs => pur (x :: xs)
def evEo (P : Pg) : Eo → Rho → M (Option Int)
  | .no, _ => pur none
  | .yes e, ρ => bnd (evE P e ρ) partI
def evIt (P : Pg) : It → Rho → M Src
  | .val e, ρ => bnd (evE P e ρ) srcV
  | .rng1 a, ρ => bnd (evE P a ρ) fun x => match x with
    | .d (.int i) => rngV 0 i
    | _ => bad
  | .rng2 a b, ρ => bnd (evE P a ρ) fun x => bnd (evE P b ρ) fun y => match x, y with
    | .d (.int i), .d (.int j) => rngV i j
    | _, _ => bad
  | .rng3 a b c, ρ => bnd (evE P a ρ) fun x => bnd (evE P b ρ) fun y => bnd (evE P c ρ) fun z => match x, y, z with
    | .d (.int i), .d (.int j), .d (.int k) => rngD i j k
    | _, _, _ => bad
  | .enum e, ρ => bnd (evE P e ρ) enumV
  | .zip a b, ρ => bnd (evE P a ρ) fun x => bnd (evE P b ρ) fun y => zipV x y
  | .rev e, ρ => bnd (evE P e ρ) revV
end
inductive Fl | nx (ρ : Rho) | rt (v : Vl) | ex (c : Str) (fs : List (Str × PyData)) (ρ : Rho)
/-- an exception out of an expression of the statement -/
def catch_ (ρ : Rho) (m : M Fl) : M Fl := fun S => match m S with
  | .ex c fs S' => .ok (.ex c fs ρ) S'
  | r => r
def forGo (s : Src) (f : Vl → Rho → M Fl) : List Vl → Rho → M Fl
  | [], ρ => bnd (guard s) fun _ => pur (.nx ρ)
  | x :: r, ρ => bnd (guard s) fun _ => bnd (f x ρ) fun o => match o with
    | .nx ρ' => forGo s f r ρ'
    | o => pur o
def whileN (c : Rho → M Bool) (b : Rho → M Fl) : Nat → Rho → Store → Option (Rs Fl)
  | 0, _, _ => none
  | n + 1, ρ, S => match catch_ ρ (bnd (c ρ) fun k => if k = true then pur (.nx ρ) else pur (.rt (.d .none))) S with
    | .ok (.nx _) S1 => (match b ρ S1 with
      | .ok (.nx ρ') S2 => whileN c b n ρ' S2
      | r => some r)
    | .ok (.rt _) S1 => some (.ok (.nx ρ) S1)
    | r => some r
open Classical in
def whileV (c : Rho → M Bool) (b : Rho → M Fl) (ρ : Rho) : M Fl := fun S =>
  if h : ∃ r, ∃ n, whileN c b n ρ S = some r then h.choose else .bad
def setSub (o i v : Vl) : M Unit := fun S => match o with
  | .loc n => (match S[n]? with
    | some (.lst xs) => (match i with
      | .d (.int k) => (match ixN xs.length k with
        | some j => .ok () (S.set n (.lst (xs.set j v)))
        | none => .bad)
      | _ => .bad)
    | some (.dk kvs) => (match i with
      | .d x => (match keyOf x with
        | some k => if kvs.length < sizeLine then .ok () (S.set n (.dk (if (kvs.any fun kv => decide (kv.1 = k)) = true then kvs.map (fun kv => if kv.1 = k then (kv.1, v) else kv) else kvs ++ [(k, v)]))) else .bad
        | none => .bad)
      | _ => .bad)
    | some (.dd m kvs) => (match i with
      | .d x => (match dataKey x with
        | some (.tup ks) => if m = n ∧ (NestedKey.tup ks).depth ≤ 8 ∧ kvs.length < sizeLine then .ok () (S.set n (.dd n (putN kvs (.tup ks) v))) else .bad
        | _ => .bad)
      | _ => .bad)
    | _ => .bad)
  | _ => .bad
def evTa (P : Pg) (t : Ta) (v : Vl) (ρ : Rho) : M Fl := match t with
  | .tg t => ofO ((setTg t v ρ).map .nx)
  | .sub o i => bnd (evE P o ρ) fun x => bnd (evE P i ρ) fun y => bnd (setSub x y v) fun _ => pur (.nx ρ)
  | .fld c o f => bnd (evE P o ρ) fun x => bnd (setFld c x f v) fun _ => pur (.nx ρ)
def setAll : List Nat → List Vl → Rho → Option Rho
  | [], [], ρ => some ρ
  | i :: is, v :: vs, ρ => setAll is vs (ρ.set i (some v))
  | _, _, _ => none
mutual
def evS (P : Pg) : St → Rho → M Fl
  | .asg t e, ρ => catch_ ρ (bnd (evE P e ρ) fun v => evTa P t v ρ)
  | .par is es, ρ => catch_ ρ (bnd (evEs P es ρ) fun vs => ofO ((setAll is vs ρ).map .nx))
  | .expr e, ρ => catch_ ρ (bnd (evE P e ρ) fun _ => pur (.nx ρ))
  | .ret e, ρ => catch_ ρ (bnd (evE P e ρ) fun v => pur (.rt v))
  | .retN, _ => pur (.rt (.d .none))
  | .nev, _ => bad
  | .ife c a b, ρ => bnd (catch_ ρ (bnd (bnd (evE P c ρ) toB) fun k => if k = true then pur (.nx ρ) else pur (.rt (.d .none)))) fun o => match o with
    | .nx _ => evSs P a ρ
    | .rt _ => evSs P b ρ
    | o => pur o
  | .fr t it b, ρ => fun S => match evIt P it ρ S with
    | .ok s S1 => forGo s (fun x ρ => match setTg t x ρ with
      | none => bad
      | some ρ1 => evSs P b ρ1) s.xs ρ S1
    | .ex c fs S1 => .ok (.ex c fs ρ) S1
    | .bad => .bad
  | .whl c b, ρ => whileV (fun ρ => bnd (evE P c ρ) toB) (fun ρ => evSs P b ρ) ρ
  | .gh i, ρ => match ρ[i]? with
    | some (some v) => bnd (frzV v) fun x => pur (.nx (ρ.set i (some x)))
    | _ => bad
def evSs (P : Pg) : Sts → Rho → M Fl
  | .nil, ρ => pur (.nx ρ)
  | .cons s r, ρ => bnd (evS P s ρ) fun o => match o with
    | .nx ρ' => evSs P r ρ'
    | o => pur o
end
/-- a def: its names, how many parameters, its body -/
structure Fd where
  ps : List Str
  nm : List Str
  body : Sts
def runFd (P : Pg) (d : Fd) (vs : List Vl) : M Vl := fun S =>
  if vs.length = d.ps.length then (match evSs P d.body (vs.map some ++ List.replicate (d.nm.length - vs.length) none) S with
    | .ok (.nx _) S' => .ok (.d .none) S'
    | .ok (.rt v) S' => .ok v S'
    | .ok (.ex c fs _) S' => .ex c fs S'
    | .ex _ _ _ => .bad
    | .bad => .bad) else .bad
def fnAt (gl : Str → Option PyData) (T : List (Str × Fd)) : Nat → Str → List Vl → M Vl
  | 0, _, _ => bad
  | k + 1, f, vs => match T.lookup f with
    | some d => runFd ⟨gl, fnAt gl T k⟩ d vs
    | none => bad
end
end DL

namespace DL
open PySem PySem.Spec PyProof.Rows L2
section
variable {X : Cx} {C : Ctx} {Ex : L2.St → XD}
abbrev PEd (X : Cx) (C : Ctx) (Ex : L2.St → XD) (x : Expr) (ev : Rho → M Vl) : Prop := PE X x (dT X.K C Ex ev)
abbrev PTd (X : Cx) (C : Ctx) (Ex : L2.St → XD) (x : Expr) (ev : Rho → M Bool) : Prop := PT X x (dB X.K C Ex ev)
abbrev PAd (X : Cx) (C : Ctx) (Ex : L2.St → XD) (xs : List Expr) (ev : Rho → M (List Vl)) : Prop := PA X xs (dA X.K C Ex ev)
theorem bind_assoc {α β γ : Type} (m : M α) (f : α → M β) (g : β → M γ) (S : Store) : bnd (bnd m f) g S = bnd m (fun a => bnd (f a) g) S := by
  unfold bnd
  cases m S <;> rfl
theorem bnd_pur {α : Type} (m : M α) (S : Store) : bnd m pur S = m S := by
  unfold bnd
  cases m S <;> rfl
theorem run_toB {α' β' : Type} {RB : Wd → α' → β' → Prop} {W : Wd} {S : Store} {H : Hp} {Q : β' → Hp → Prop} {σ : L2.St} {a : Vl} {v : V} {g : Bool → M α'} (r : RV X.K W a v) (h : Run X.K C (Ex σ) RB (bnd (toB a) g S) W S H Q) :
    ∃ k, v = .bl k ∧ Run X.K C (Ex σ) RB (g k S) W S H Q := by
  cases a with
  | d x =>
    cases x <;> first | exact False.elim h | skip
    exact ⟨_, rv_bl r, h⟩
  | _ => exact False.elim h
/-- a test by its value -/
theorem d_val {x : Expr} {ev : Rho → M Vl} (h : PEd X C Ex x ev) (he : ∀ whole, isTrue x X.env whole = (do let v ← whole; standAt x.pos; holding [v] (truthy v))) : PTd X C Ex x (fun ρ => bnd (ev ρ) toB) := by
  refine PT.weak (pt_val h he) fun σ H Q ⟨W, S, ρ, s, r, q⟩ => ?_
  refine dT.one s r q fun a S' W' H' v l s' r' ra q => ?_
  obtain ⟨k, e, q⟩ := run_toB (g := pur) ra (by rw [bnd_pur]; exact q)
  exact ⟨k, e, Run.pure s' q rfl⟩
theorem d_var {i : Nat} {x : Str} {pos : Pos} (hN : X.N[i]? = some x) (hv : Vis X.env.scope x) (hd : (x == ("__debug__" : Str)) = false) (hcd : (x == ("__classdict__" : Str)) = false) :
    PEd X C Ex (.Name x pos) (fun ρ => match ρ[i]? with | some (some v) => pur v | _ => bad) := by
  refine PE.weak (pe_var hN hv hd hcd) fun σ H Q ⟨W, S, ρ, s, r, q⟩ => ?_
  cases e : ρ[i]? with
  | none => simp only [e] at q; exact False.elim q
  | some o =>
    cases o with
    | none => simp only [e] at q; exact False.elim q
    | some a =>
      simp only [e] at q
      obtain ⟨p, h1, h2⟩ := Paired.at r e
      obtain ⟨v, h3, h4⟩ := h2 a rfl
      exact ⟨v, by rw [h1, h3], Run.pure s q h4⟩
theorem d_cst {x : Expr} {d : PyData} {v : V} (h : PE X x (tC v)) (r : ∀ W, RV X.K W (.d d) v) : PEd X C Ex x (fun _ => pur (.d d)) :=
  PE.weak h fun σ H Q ⟨W, S, ρ, s, _, q⟩ => Run.pure s q (r W)
theorem d_bin {a b : Expr} {o : Bop} {pos : Pos} {ea eb : Rho → M Vl} (ha : PEd X C Ex a ea) (hb : PEd X C Ex b eb) : PEd X C Ex (.BinOp a o.op b pos) (fun ρ => bnd (ea ρ) fun x => bnd (eb ρ) fun y => binV o x y) := by
  refine ⟨fun pins s σ H Q I h => ?_⟩
  refine (pe_op (opBin (C := C) (Ex := Ex σ) o) ha hb).run pins s σ H Q I ?_
  obtain ⟨W, S, ρ, sr, r, q⟩ := h
  refine dT.one sr r q fun x S1 W1 H1 v l1 s1 r1 rx q => ?_
  refine dT.one s1 r1 q fun y S2 W2 H2 u l2 s2 r2 ry q => ?_
  exact ⟨W2, S2, x, y, s2, rx.mono l2, ry, q⟩
theorem d_cmp {a b : Expr} {o : Cop} {pos : Pos} {ea eb : Rho → M Vl} (hw : C.w = X.w) (hu : X.A.units + 66 < cLine) (hm : behindInMarks o.op b = false) (ha : PEd X C Ex a ea) (hb : PEd X C Ex b eb) :
    PEd X C Ex (.Compare a [o.op] [b] pos) (fun ρ => bnd (ea ρ) fun x => bnd (eb ρ) fun y => cmpV o x y) := by
  refine ⟨fun pins s σ H Q I h => ?_⟩
  refine (pe_cmpR (opCmp (C := C) (Ex := Ex σ) hw hu o) ha hb hm).run pins s σ H Q I ?_
  obtain ⟨W, S, ρ, sr, r, q⟩ := h
  refine dT.one sr r q fun x S1 W1 H1 v l1 s1 r1 rx q => ?_
  refine dT.one s1 r1 q fun y S2 W2 H2 u l2 s2 r2 ry q => ?_
  exact ⟨W2, S2, x, y, s2, rx.mono l2, ry, q⟩
theorem d_cmpT {a b : Expr} {o : Cop} {pos : Pos} {ea eb : Rho → M Vl} (hw : C.w = X.w) (hu : X.A.units + 66 < cLine) (hm : behindInMarks o.op b = false) (ha : PEd X C Ex a ea) (hb : PEd X C Ex b eb) :
    PTd X C Ex (.Compare a [o.op] [b] pos) (fun ρ => bnd (bnd (ea ρ) fun x => bnd (eb ρ) fun y => cmpV o x y) toB) := by
  refine ⟨fun pins s σ H Q I h => ?_⟩
  refine (pt_cmpR (opCmp (C := C) (Ex := Ex σ) hw hu o) ha hb hm).run pins s σ H Q I ?_
  obtain ⟨W, S, ρ, sr, r, q⟩ := h
  (try dsimp only at q)
  rw [bind_assoc] at q
  refine dT.one sr r q fun x S1 W1 H1 v l1 s1 r1 rx q => ?_
  (try dsimp only at q)
  rw [bind_assoc] at q
  refine dT.one s1 r1 q fun y S2 W2 H2 u l2 s2 r2 ry q => ?_
  refine ⟨W2, S2, x, y, s2, rx.mono l2, ry, Run.bnd q fun k S3 W3 H3 v3 t3 s3 r3 q => ?_⟩
  obtain ⟨b, e, q⟩ := run_toB (g := pur) r3 (by rw [bnd_pur]; exact q)
  exact ⟨b, e, Run.pure s3 q rfl⟩
theorem d_chain {a b c : Expr} {o p : Cop} {pos : Pos} {ea eb ec : Rho → M Vl} (hw : C.w = X.w) (hu : X.A.units + 66 < cLine) (hm : lastMarks [o.op, p.op] [b, c] = false) (ha : PEd X C Ex a ea) (hb : PEd X C Ex b eb) (hc : PEd X C Ex c ec) :
    PEd X C Ex (.Compare a [o.op, p.op] [b, c] pos) (fun ρ => bnd (ea ρ) fun x => bnd (eb ρ) fun y => bnd (bnd (cmpV o x y) toB) fun k => if k = true then bnd (ec ρ) fun z => cmpV p y z else pur (.d (.bool false))) := by
  refine ⟨fun pins s σ H Q I h => ?_⟩
  refine (pe_chain (opCmp (C := C) (Ex := Ex σ) hw hu o) (opCmp (C := C) (Ex := Ex σ) hw hu p) ha hb hc hm).run pins s σ H Q I ?_
  obtain ⟨W, S, ρ, sr, r, q⟩ := h
  refine dT.one sr r q fun x S1 W1 H1 v l1 s1 r1 rx q => ?_
  refine dT.one s1 r1 q fun y S2 W2 H2 u l2 s2 r2 ry q => ?_
  (try dsimp only at q)
  rw [bind_assoc] at q
  refine ⟨W2, S2, x, y, s2, rx.mono l2, ry, Run.bnd q fun k S3 W3 H3 v3 t3 s3 r3 q => ?_⟩
  obtain ⟨b, e, q⟩ := run_toB r3 q
  refine ⟨b, e, ?_⟩
  have r4 := r2.mono t3.le
  cases b with
  | true =>
    rw [if_pos rfl] at q ⊢
    refine dT.one s3 r4 q fun z S4 W4 H4 v4 l4 s4 r4 rz q => ?_
    exact ⟨W4, S4, y, z, s4, (ry.mono t3.le).mono l4, rz, q⟩
  | false =>
    rw [if_neg Bool.false_ne_true] at q ⊢
    exact Run.pure s3 q (bl_rv false)
theorem d_chainT {a b c : Expr} {o p : Cop} {pos : Pos} {ea eb ec : Rho → M Vl} (hw : C.w = X.w) (hu : X.A.units + 66 < cLine) (hm : lastMarks [o.op, p.op] [b, c] = false) (ha : PEd X C Ex a ea) (hb : PEd X C Ex b eb) (hc : PEd X C Ex c ec) :
    PTd X C Ex (.Compare a [o.op, p.op] [b, c] pos) (fun ρ => bnd (bnd (ea ρ) fun x => bnd (eb ρ) fun y => bnd (bnd (cmpV o x y) toB) fun k => if k = true then bnd (ec ρ) fun z => cmpV p y z else pur (.d (.bool false))) toB) := by
  refine ⟨fun pins s σ H Q I h => ?_⟩
  refine (pt_chain (opCmp (C := C) (Ex := Ex σ) hw hu o) (opCmp (C := C) (Ex := Ex σ) hw hu p) ha hb hc hm).run pins s σ H Q I ?_
  obtain ⟨W, S, ρ, sr, r, q⟩ := h
  (try dsimp only at q)
  rw [bind_assoc] at q
  refine dT.one sr r q fun x S1 W1 H1 v l1 s1 r1 rx q => ?_
  (try dsimp only at q)
  rw [bind_assoc] at q
  refine dT.one s1 r1 q fun y S2 W2 H2 u l2 s2 r2 ry q => ?_
  rw [bind_assoc, bind_assoc] at q
  refine ⟨W2, S2, x, y, s2, rx.mono l2, ry, Run.bnd q fun k S3 W3 H3 v3 t3 s3 r3 q => ?_⟩
  obtain ⟨b, e, q⟩ := run_toB r3 q
  refine ⟨b, e, ?_⟩
  have r4 := r2.mono t3.le
  have last : ∀ {W : Wd} {S : Store} {H : Hp} {k : Vl} {v : V}, SR X.K C W S H → RV X.K W k v → Run X.K C (Ex σ) RBool (toB k S) W S H Q → ∃ b, v = .bl b ∧ Q b H := by
    intro W S H k v s3 r3 q
    obtain ⟨b, e, q⟩ := run_toB (g := pur) r3 (by rw [bnd_pur]; exact q)
    exact ⟨b, e, Run.pure s3 q rfl⟩
  cases b with
  | true =>
    rw [if_pos rfl] at q ⊢
    (try dsimp only at q)
    rw [bind_assoc] at q
    refine dT.one s3 r4 q fun z S4 W4 H4 v4 l4 s4 r4 rz q => ?_
    exact ⟨W4, S4, y, z, s4, (ry.mono t3.le).mono l4, rz, Run.bnd q fun k S5 W5 H5 v5 t5 s5 r5 q => last s5 r5 q⟩
  | false =>
    rw [if_neg Bool.false_ne_true] at q ⊢
    exact ⟨false, rfl, Run.pure s3 q rfl⟩
theorem d_neg {a : Expr} {pos : Pos} {ea : Rho → M Vl} (ha : PEd X C Ex a ea) : PEd X C Ex (.UnaryOp .USub a pos) (fun ρ => bnd (ea ρ) fun x => match x with | .d (.int i) => pur (.d (.int (-i))) | _ => bad) := by
  refine PE.weak (pe_un un_neg ha) fun σ H Q ⟨W, S, ρ, s, r, q⟩ => ?_
  refine dT.one s r q fun x S1 W1 H1 v l1 s1 r1 rx q => ?_
  cases x with
  | d y =>
    cases y <;> first | exact False.elim q | skip
    exact ⟨_, rv_int rx, Run.pure s1 q (int_rv _)⟩
  | _ => exact False.elim q
/-! tests -/
theorem toB_pur (k : Bool) (S : Store) : bnd (pur (Vl.d (.bool k))) toB S = .ok k S := rfl
theorem d_notT {a : Expr} {pos : Pos} {ea : Rho → M Bool} (ha : PTd X C Ex a ea) : PTd X C Ex (.UnaryOp .Not a pos) (fun ρ => bnd (bnd (ea ρ) fun k => pur (.d (.bool (!k)))) toB) := by
  refine PT.weak (pt_not ha) fun σ H Q ⟨W, S, ρ, s, r, q⟩ => ?_
  (try dsimp only at q)
  rw [bind_assoc] at q
  exact dB.one s r q fun k S1 W1 H1 l1 s1 r1 q => Run.now s1 q rfl
theorem d_not {a : Expr} {pos : Pos} {ea : Rho → M Vl} (ha : PEd X C Ex a ea) : PEd X C Ex (.UnaryOp .Not a pos) (fun ρ => bnd (bnd (ea ρ) toB) fun k => pur (.d (.bool (!k)))) := by
  refine PE.weak (pe_not ha) fun σ H Q ⟨W, S, ρ, s, r, q⟩ => ?_
  (try dsimp only at q)
  rw [bind_assoc] at q
  refine dT.one s r q fun x S1 W1 H1 v l1 s1 r1 rx q => ?_
  obtain ⟨k, e, q⟩ := run_toB rx q
  exact ⟨k, e, Run.pure s1 q (bl_rv _)⟩
theorem d_and {a b : Expr} {rest : List Expr} {pos : Pos} {ea eb : Rho → M Vl} (ha : PEd X C Ex a ea) (hb : PEd X C Ex (.BoolOp .And (b :: rest) pos) eb) :
    PEd X C Ex (.BoolOp .And (a :: b :: rest) pos) (fun ρ => bnd (bnd (ea ρ) toB) fun k => if k = true then eb ρ else pur (.d (.bool false))) := by
  refine PE.weak (pe_and ha hb) fun σ H Q ⟨W, S, ρ, s, r, q⟩ => ?_
  (try dsimp only at q)
  rw [bind_assoc] at q
  refine dT.one s r q fun x S1 W1 H1 v l1 s1 r1 rx q => ?_
  obtain ⟨k, e, q⟩ := run_toB rx q
  refine ⟨k, e, ?_⟩
  cases k with
  | true => exact ⟨W1, S1, ρ, s1, r1, q⟩
  | false => exact Run.pure s1 q (bl_rv _)
theorem d_or {a b : Expr} {rest : List Expr} {pos : Pos} {ea eb : Rho → M Vl} (ha : PEd X C Ex a ea) (hb : PEd X C Ex (.BoolOp .Or (b :: rest) pos) eb) :
    PEd X C Ex (.BoolOp .Or (a :: b :: rest) pos) (fun ρ => bnd (bnd (ea ρ) toB) fun k => if k = true then pur (.d (.bool true)) else eb ρ) := by
  refine PE.weak (pe_or ha hb) fun σ H Q ⟨W, S, ρ, s, r, q⟩ => ?_
  (try dsimp only at q)
  rw [bind_assoc] at q
  refine dT.one s r q fun x S1 W1 H1 v l1 s1 r1 rx q => ?_
  obtain ⟨k, e, q⟩ := run_toB rx q
  refine ⟨k, e, ?_⟩
  cases k with
  | true => exact Run.pure s1 q (bl_rv _)
  | false => exact ⟨W1, S1, ρ, s1, r1, q⟩
theorem pw_of {op : BoolOp} {es : List Expr} {pos : Pos} {t : TT} (h : PT X (.BoolOp op es pos) t) : PW X (.BoolOp op es pos) t := ⟨fun whole pins s σ H Q I q => h.run pins s σ H Q I q⟩
theorem d_andT {a b : Expr} {rest : List Expr} {pos : Pos} {ea : Rho → M Vl} {eb : Rho → M Vl} (ha : PTd X C Ex a (fun ρ => bnd (ea ρ) toB)) (hb : PTd X C Ex (.BoolOp .And (b :: rest) pos) (fun ρ => bnd (eb ρ) toB)) :
    PTd X C Ex (.BoolOp .And (a :: b :: rest) pos) (fun ρ => bnd (bnd (bnd (ea ρ) toB) fun k => if k = true then eb ρ else pur (.d (.bool false))) toB) := by
  refine PT.weak (PW.pt (pw_and ha (pw_of hb))) fun σ H Q ⟨W, S, ρ, s, r, q⟩ => ?_
  (try dsimp only at q)
  rw [bind_assoc] at q
  refine dB.one s r q fun k S1 W1 H1 l1 s1 r1 q => ?_
  cases k with
  | true =>
    rw [if_pos rfl] at q ⊢
    exact ⟨W1, S1, ρ, s1, r1, q⟩
  | false =>
    rw [if_neg Bool.false_ne_true] at q ⊢
    exact Run.now s1 q rfl
theorem d_orT {a b : Expr} {rest : List Expr} {pos : Pos} {ea : Rho → M Vl} {eb : Rho → M Vl} (ha : PTd X C Ex a (fun ρ => bnd (ea ρ) toB)) (hb : PTd X C Ex (.BoolOp .Or (b :: rest) pos) (fun ρ => bnd (eb ρ) toB)) :
    PTd X C Ex (.BoolOp .Or (a :: b :: rest) pos) (fun ρ => bnd (bnd (bnd (ea ρ) toB) fun k => if k = true then pur (.d (.bool true)) else eb ρ) toB) := by
  refine PT.weak (PW.pt (pw_or ha (pw_of hb))) fun σ H Q ⟨W, S, ρ, s, r, q⟩ => ?_
  (try dsimp only at q)
  rw [bind_assoc] at q
  refine dB.one s r q fun k S1 W1 H1 l1 s1 r1 q => ?_
  cases k with
  | true =>
    rw [if_pos rfl] at q ⊢
    exact Run.now s1 q rfl
  | false =>
    rw [if_neg Bool.false_ne_true] at q ⊢
    exact ⟨W1, S1, ρ, s1, r1, q⟩
theorem d_oneT {op : BoolOp} {b : Expr} {pos : Pos} {t : TT} (h : PT X b t) : PT X (.BoolOp op [b] pos) t := by
  cases op with
  | And => exact (pw_and1 h).pt
  | Or => exact (pw_or1 h).pt
theorem d_ife {c a b : Expr} {pos : Pos} {ec : Rho → M Bool} {ea eb : Rho → M Vl} (hc : PTd X C Ex c ec) (ha : PEd X C Ex a ea) (hb : PEd X C Ex b eb) : PEd X C Ex (.IfExp c a b pos) (fun ρ => bnd (ec ρ) fun k => if k = true then ea ρ else eb ρ) := by
  refine PE.weak (pe_ifExp hc ha hb) fun σ H Q ⟨W, S, ρ, s, r, q⟩ => ?_
  refine dB.one s r q fun k S1 W1 H1 l1 s1 r1 q => ?_
  cases k with
  | true =>
    rw [if_pos rfl] at q ⊢
    exact ⟨W1, S1, ρ, s1, r1, q⟩
  | false =>
    rw [if_neg Bool.false_ne_true] at q ⊢
    exact ⟨W1, S1, ρ, s1, r1, q⟩
theorem d_ix {a b : Expr} {pos : Pos} {ea eb : Rho → M Vl} (hw : C.w = X.w) (hu : X.A.units + 66 < cLine) (hs : PlainIx b) (ha : PEd X C Ex a ea) (hb : PEd X C Ex b eb) : PEd X C Ex (.Subscript a b pos) (fun ρ => bnd (ea ρ) fun x => bnd (eb ρ) fun y => ixV x y) := by
  refine ⟨fun pins s σ H Q I h => ?_⟩
  refine (pe_ix (ixAt (C := C) (Ex := Ex σ) hw hu) ha hb hs).run pins s σ H Q I ?_
  obtain ⟨W, S, ρ, sr, r, q⟩ := h
  refine dT.one sr r q fun x S1 W1 H1 v l1 s1 r1 rx q => ?_
  refine dT.one s1 r1 q fun y S2 W2 H2 u l2 s2 r2 ry q => ?_
  exact ⟨W2, S2, x, y, s2, rx.mono l2, ry, q⟩
/-! parts of a slice -/
def dO (K : PySem.W.Frag) (C : Ctx) (Ex : L2.St → XD) (ev : Rho → M (Option Int)) : TO := fun σ H Q => ∃ W S ρ, SR K C W S H ∧ RE K W ρ σ ∧ Run K C (Ex σ) (fun _ a b => a = b) (ev ρ S) W S H Q
theorem PO.weak {e : Option Expr} {t t' : TO} (h : PO X e t) (k : ∀ σ H Q, t' σ H Q → t σ H Q) : PO X e t' := ⟨fun pins s σ H Q I q => h.run pins s σ H Q I (k σ H Q q)⟩
theorem d_no : PO X none (dO X.K C Ex (fun _ => pur none)) := PO.weak po_none fun σ H Q ⟨W, S, ρ, s, r, q⟩ => Run.now s q rfl
theorem d_yes {e : Expr} {ev : Rho → M Vl} (h : PEd X C Ex e ev) : PO X (some e) (dO X.K C Ex (fun ρ => bnd (ev ρ) partI)) := by
  refine PO.weak (po_some h) fun σ H Q ⟨W, S, ρ, s, r, q⟩ => ?_
  refine dT.one s r q fun x S1 W1 H1 v l1 s1 r1 rx q => ?_
  cases x with
  | d y =>
    cases y <;> first | exact False.elim q | skip
    exact ⟨_, rv_int rx, Run.now s1 q rfl⟩
  | _ => exact False.elim q
theorem d_sl {e : Expr} {lo hi : Option Expr} {p2 pos : Pos} {m : Bool} {ev : Rho → M Vl} {el eh : Rho → M (Option Int)} (he : PEd X C Ex e ev) (hl : PO X lo (dO X.K C Ex el)) (hh : PO X hi (dO X.K C Ex eh)) :
    PEd X C Ex (.Subscript e (.Slice lo hi none p2) pos) (fun ρ => bnd (ev ρ) fun x => bnd (el ρ) fun l => bnd (eh ρ) fun h => slV m x l h) := by
  refine ⟨fun pins s σ H Q I h => ?_⟩
  refine (pe_slice (slAt (C := C) (Ex := Ex σ) m) he hl hh).run pins s σ H Q I ?_
  obtain ⟨W, S, ρ, sr, r, q⟩ := h
  refine dT.one sr r q fun x S1 W1 H1 v l1 s1 r1 rx q => ?_
  refine ⟨W1, S1, ρ, s1, r1, Run.bnd q fun l S2 W2 H2 l' t2 s2 e2 q => ?_⟩
  cases e2
  refine ⟨W2, S2, ρ, s2, r1.mono t2.le, Run.bnd q fun h S3 W3 H3 h' t3 s3 e3 q => ?_⟩
  cases e3
  exact ⟨W3, S3, x, s3, (rx.mono t2.le).mono t3.le, q⟩
/-! argument lists, displays -/
theorem d_nil : PAd X C Ex [] (fun _ => pur []) := PA.weak pa_nil fun σ H Q ⟨W, S, ρ, s, r, q⟩ => Run.pure s q .nil
theorem d_cons {e : Expr} {es : List Expr} {ev : Rho → M Vl} {evs : Rho → M (List Vl)} (he : PEd X C Ex e ev) (hs : PAd X C Ex es evs) (hst : starEach (e :: es) X.env = (false, eval e X.env) :: starEach es X.env) :
    PAd X C Ex (e :: es) (fun ρ => bnd (ev ρ) fun x => bnd (evs ρ) fun xs => pur (x :: xs)) := by
  refine PA.weak (pa_cons he hs hst) fun σ H Q ⟨W, S, ρ, s, r, q⟩ => ?_
  refine dT.one s r q fun x S1 W1 H1 v l1 s1 r1 rx q => ?_
  refine dA.one s1 r1 q fun xs S2 W2 H2 vs l2 s2 r2 rxs q => ?_
  exact Run.pure s2 q (.cons (rx.mono l2) rxs)
theorem d_tup {es : List Expr} {k : Nat} {pos : Pos} {evs : Rho → M (List Vl)} (h : PAd X C Ex es evs) : PEd X C Ex (.Tuple es k pos) (fun ρ => bnd (evs ρ) newT) := by
  refine PE.weak (pe_tup h) fun σ H Q ⟨W, S, ρ, s, r, q⟩ => ?_
  exact dA.one s r q fun xs S1 W1 H1 vs l1 s1 r1 rxs q => newT_run s1 rxs q
theorem d_lst {es : List Expr} {m : Bool} {pos : Pos} {evs : Rho → M (List Vl)} (h : PAd X C Ex es evs) : PEd X C Ex (.List es pos) (fun ρ => bnd (evs ρ) (newL m)) := by
  refine PE.weak (pe_lst h) fun σ H Q ⟨W, S, ρ, s, r, q⟩ => ?_
  exact dA.one s r q fun xs S1 W1 H1 vs l1 s1 r1 rxs q => newL_run s1 rxs q
theorem d_frz {e : Expr} {ev : Rho → M Vl} (h : PEd X C Ex e ev) : PEd X C Ex e (fun ρ => bnd (ev ρ) frzV) := by
  refine PE.weak h fun σ H Q ⟨W, S, ρ, s, r, q⟩ => ?_
  exact dT.one s r q fun x S1 W1 H1 v l1 s1 r1 rx q => frz_run s1 rx q
theorem d_bi {x : Str} {p pos : Pos} {e : Expr} {es : List Expr} {evs : Rho → M (List Vl)} (b : Bi) (hw : C.w = X.w) (hu : X.A.units + 66 < cLine) (hc : X.calm = true) (hx : x = b.name) (hg : Gl X x) (hm : X.mg x = none) (h : PAd X C Ex (e :: es) evs)
    (he : starEach (e :: es) X.env = (false, eval e X.env) :: starEach es X.env) (hpl : (backTo pos (starEach es X.env)).any (·.1) = false) : PEd X C Ex (.Call (.Name x p) (e :: es) [] pos) (fun ρ => bnd (evs ρ) (biV b)) := by
  subst hx
  refine ⟨fun pins s σ H Q I q => ?_⟩
  have hq : tCB (rN X.K C (Ex σ) (biV b)) (dA X.K C Ex evs) σ H Q := by
    obtain ⟨W, S, ρ, s, r, q⟩ := q
    exact dA.one s r q fun xs S1 W1 H1 vs l1 s1 r1 rxs q => ⟨W1, S1, xs, s1, rxs, q⟩
  have cr := crBi (X := X) (C := C) (Ex := Ex σ) hw hc hu b
  cases b with
  | len => exact (pe_callB cr hg hm PySem.boot_len h (by decide) (by decide) he hpl).run pins s σ H Q I hq
  | int => exact (pe_callTy cr hg hm (by decide +kernel) h (by decide) (by decide) he hpl).run pins s σ H Q I hq
  | str => exact (pe_callTy cr hg hm (by decide +kernel) h (by decide) (by decide) he hpl).run pins s σ H Q I hq
  | list m => exact (pe_callTy cr (show Gl X "list" from hg) (show X.mg "list" = none from hm) (by decide +kernel) h (by decide) (by decide) he hpl).run pins s σ H Q I hq
  | tuple => exact (pe_callTy cr hg hm (by decide +kernel) h (by decide) (by decide) he hpl).run pins s σ H Q I hq
  | all => exact (pe_callB cr hg hm (by decide +kernel) h (by decide) (by decide) he hpl).run pins s σ H Q I hq
  | any => exact (pe_callB cr hg hm (by decide +kernel) h (by decide) (by decide) he hpl).run pins s σ H Q I hq
  | max2 => exact (pe_callB cr hg hm (by decide +kernel) h (by decide) (by decide) he hpl).run pins s σ H Q I hq
  | min2 => exact (pe_callB cr hg hm (by decide +kernel) h (by decide) (by decide) he hpl).run pins s σ H Q I hq
  | ord => exact (pe_callB cr hg hm (by decide +kernel) h (by decide) (by decide) he hpl).run pins s σ H Q I hq
  | sum => exact (pe_callB cr hg hm (by decide +kernel) h (by decide) (by decide) he hpl).run pins s σ H Q I hq
  | x b =>
    cases b with
    | srt m => exact (pe_callB cr (show Gl X "sorted" from hg) (show X.mg "sorted" = none from hm) (by decide +kernel) h (by decide) (by decide) he hpl).run pins s σ H Q I hq
    | max1 => exact (pe_callB cr hg hm (by decide +kernel) h (by decide) (by decide) he hpl).run pins s σ H Q I hq
    | min1 => exact (pe_callB cr hg hm (by decide +kernel) h (by decide) (by decide) he hpl).run pins s σ H Q I hq
    | dictp => exact (pe_callTy cr hg hm (by decide +kernel) h (by decide) (by decide) he hpl).run pins s σ H Q I hq
/-- it is of the type T, and has no names of its own -/
def Kin (X : Cx) (T : String) (x : V) (H : Hp) : Prop := ∀ (pins : List (Addr × Obj)) (σ : L2.St) (s : Shared) (v : Value), Inv X pins σ H s → RelV x v → s.TypeIs v T ∧ ∀ p, v = .ref p → ∃ o', s.heap.get? p = some o' ∧ o'.dict = none
theorem isTy_at {T : String} {W : Wd} {S : Store} {H : Hp} {a : Vl} {x : V} (hw : C.w = X.w) (s : SR X.K C W S H) (r : RV X.K W a x) (h : isTy S T a = true) : Kin X T x H := by
  have old : tyV X.K T x H → Kin X T x H := fun ty pins σ s v I r => tyV_is I r ty
  cases a with
  | d y =>
    cases y <;> first | (simp [isTy] at h; done) | skip
    · have e := rv_str r
      subst e
      exact old (beq_iff_eq.mp h)
    · obtain ⟨p, vs, rfl, sq, _⟩ := rdL_at s r rfl
      exact old (.inl ⟨beq_iff_eq.mp h, vs, sq⟩)
  | scr ns => simp [isTy] at h
  | loc n =>
    obtain ⟨_, e⟩ := r
    subst e
    cases q : S[n]? with
    | none => simp [isTy, q] at h
    | some o =>
      cases o with
      | lst xs =>
        obtain ⟨_, ho, h2, vs, rfl, _⟩ := s.at_ n _ q (fun z => by cases z)
        simp only [isTy, q] at h
        exact old (.inl ⟨beq_iff_eq.mp h, vs, .inl (.inl h2)⟩)
      | dk kvs =>
        obtain ⟨_, ho, h2, vs, rfl, _⟩ := s.at_ n _ q (fun z => by cases z)
        simp only [isTy, q] at h
        exact old (.inr (.inr (.inl ⟨beq_iff_eq.mp h, .inl ⟨vs, h2⟩⟩)))
      | dd m kvs =>
        simp only [isTy, q, Bool.and_eq_true, beq_iff_eq] at h
        obtain ⟨rfl, hm⟩ := h
        intro pins σ s' v I r
        obtain ⟨xs, vs, _, _, _, D, _, _⟩ := dd_at hw I s q hm
        cases (show v = Value.ref _ from r)
        obtain ⟨o, _, _, h1, h2, _⟩ := D
        refine ⟨⟨o, h1, h2.1⟩, fun p e => ?_⟩
        cases e
        exact ⟨o, h1, h2.2.1⟩
      | _ => simp [isTy, q] at h
end
end DL

namespace PySem
open Sem (wp)
theorem dl_enum_new {v : Value} {o : Obj} {H : Heap → Prop} (B : Begins v o H) :
    Meets (Builtin.«enumerate.__new__» ⟨[.type "enumerate", v], []⟩) (fun _ R s => H s.heap ∧
      R (.ok (.ret (.ref (s.heap.push o).objs.size))) { s with heap := (s.heap.push o).push { cls := .type "enumerate", data := .fields #[.none, .bool false, .ref s.heap.objs.size, rawInt 0, .none, .none] } }) :=
  .of_wp fun prog w A R s h => by
    obtain ⟨hp, g, d, tk, os⟩ := s; obtain ⟨h1, h⟩ := h
    have hsub := sub_enumerate
    have q1 : ∀ {A' : Around} {E : Value → Shared → Prop} {Q : Value → Shared → Prop}, Q (.ref hp.objs.size) ⟨hp.push o, g, d, tk, os⟩ → wpAny (model prog w) A' (pyIter v) Q E ⟨hp, g, d, tk, os⟩ :=
      fun q => B.iter prog w _ _ ⟨hp, g, d, tk, os⟩ _ h1 q
    wp_walk using q1
    refine wpAny_stack_any fun st => wpAny_pure ?_
    split
    · rename_i c _ _ _ _ _
      cases (c == Value.type "enumerate")
      · wp_walk using q1
        exact ⟨_, rfl, h⟩
      · wp_walk using q1
        exact ⟨_, rfl, h⟩
    · wp_walk using q1
      exact ⟨_, rfl, h⟩
section
variable {prog : Program} {w : World} {A : Around} {E : Value → Shared → Prop} {s : Shared}
theorem dl_enum_begins {v : Value} {o : Obj} {H : Heap → Prop} {Q : Value → Shared → Prop} (B : Begins v o H) (h1 : H s.heap)
    (h : ∀ h', IsEnum h' (s.heap.objs.size + 1) s.heap.objs.size 0 .none → h'.get? s.heap.objs.size = some o → h'.objs.size = s.heap.objs.size + 2 →
      (∀ b o, s.heap.get? b = some o → h'.get? b = some o) → Q (.ref (s.heap.objs.size + 1)) { s with heap := h' }) :
    wpAny (model prog w) A (call (.type "enumerate") [v]) Q E s := by
  refine callType_new F.called_enumerate (by decide) (F.typeCall_enumerate_1 _) (F.newCall_enumerate_1 _) (fun obj => F.args_object_init_2 obj _) F.entry_enumerate_new
    (dl_enum_new B) ⟨h1, ?_⟩
  have hz : (s.heap.push o).objs.size = s.heap.objs.size + 1 := Heap.size_push ..
  show _ ∧ _
  rw [hz]
  have he : IsEnum ((s.heap.push o).push { cls := .type "enumerate", data := .fields #[.none, .bool false, .ref s.heap.objs.size, rawInt 0, .none, .none] }) (s.heap.objs.size + 1) s.heap.objs.size 0 .none := by
    have := Heap.get?_push_size (s.heap.push o) (o := { cls := .type "enumerate", data := .fields #[.none, .bool false, .ref s.heap.objs.size, rawInt 0, .none, .none] }) rfl
    rw [hz] at this; exact this
  exact ⟨⟨_, he, rfl⟩, h _ he (Heap.get?_push_of_some _ (Heap.get?_push_size _ B.free)) (by rw [Heap.size_push, hz]) fun b o' x => Heap.get?_push_of_some _ (Heap.get?_push_of_some _ x)⟩
end
end PySem
namespace DL
open PySem PySem.Spec PyProof.Rows L2
/-! ### enumerate of a tuple -/
def IteT (K : PySem.W.Frag) (a : Addr) : L2.It :=
  ⟨fun i H => ∃ (xs : List V) (x : V), SqT K H a xs ∧ xs[i]? = some x, fun i H v H' => ∃ T x, v = .ref T ∧ H T = none ∧ H' = upd H T (.tup [.int (i : Nat), x]) ∧ ∀ xs, SqT K H a xs → xs[i]? = some x, fun i H => ∃ xs : List V, SqT K H a xs ∧ xs.length = i⟩
theorem turn_enumT {P : Program} {w : World} {K : PySem.W.Frag} {elts : List Expr} {kk : Nat} {tpos : Pos} (a e it : Addr) :
    Turn P w K (.Tuple elts kk tpos) (IteT K a) [e, it] e (fun i h => (∃ old, IsEnum h e it ((i : Nat) : Int) old) ∧ h.IsTupleIter it a i ∧ e ≠ it) where
  mem := by simp
  obj := fun i h st b hb => by
    obtain ⟨⟨old, he⟩, ⟨o, ho, hc, hd⟩, _⟩ := st
    have e' : b = e ∨ b = it := by simpa using hb
    rcases e' with z | z
    · rw [z]; exact ⟨_, he, fun v q => nomatch q⟩
    · rw [z]; exact ⟨o, ho, fun v q => by rw [hd] at q; cases q⟩
  keep := fun i h h' st k => let ⟨⟨old, he⟩, hi, hne⟩ := st; ⟨⟨old, k e (by simp) _ he⟩, hi.at fun o q => k it (by simp) o q, hne⟩
  item := by
    intro X hP hw hK hc i pins s σ H E I hf st hg
    subst hP hw hK
    obtain ⟨⟨old, he⟩, hit, hne⟩ := st
    obtain ⟨xs, x, hq, hx⟩ := hg
    obtain ⟨its, rv, p, hz⟩ := I.tuple hq
    obtain ⟨u, hu, ru⟩ := rv.get hx
    have hel : e < s.heap.objs.size := Heap.lt_size he
    have hil : it < s.heap.objs.size := by obtain ⟨_, q, _⟩ := hit; exact Heap.lt_size q
    have hea : e ≠ a := fun z => by
      subst z
      obtain ⟨o, ho, hc', _⟩ := p
      rw [he] at ho
      cases ho
      exact absurd hc' (by intro z; injection z with z; exact absurd z (by decide))
    have hai : a ≠ it := fun z => by
      subst z
      obtain ⟨o, ho, hc', _⟩ := p
      obtain ⟨o2, ho2, hc2, _⟩ := hit
      rw [ho] at ho2
      cases ho2
      rw [hc'] at hc2
      exact absurd hc2 (by intro z; injection z with z; exact absurd z (by decide))
    have hlt : i < its.toArray.size := by
      have := (List.getElem?_eq_some_iff.mp hu).1
      simpa using this
    refine wpAny_pyNext_enum_itemD (Draws.tuple (show X.A.in1.handled = none from I.ok.hd hc) it a hai its.toArray) he ⟨hit, p⟩ hlt hne (by simp [hne, hea]) fun u' h' tk hu' ho st' hT hsz hk => ?_
    have eu : u' = u := by
      have hu' : its.toArray[i]? = some u' := hu'
      have : its[i]? = some u' := by simpa using hu'
      rw [hu] at this
      exact (Option.some.inj this).symm
    subst eu
    refine ⟨_, rfl, wpAny_letOwnedTupleGo_enum (s := { s with heap := h', toks := tk + 1 }) ho fun h'' he' sb => ?_⟩
    have hT2 : h''.get? s.heap.objs.size = some { cls := .type "tuple", data := .seq #[.int i tk, u'] } := (sb.2 _ (Nat.ne_of_gt hel)).trans hT
    have new : ObjOk X.prog X.w (upd H s.heap.objs.size (.tup [.int (i : Nat), x])) h'' s.heap.objs.size (.tup [.int (i : Nat), x]) :=
      ⟨by show 2 ≤ sizeLine; decide, [.int i tk, u'], .cons ⟨_, rfl⟩ (.cons ru .nil), ⟨_, hT2, rfl, _, rfl⟩⟩
    have I1 : L2.Inv X pins σ (upd H s.heap.objs.size (.tup [.int (i : Nat), x])) { s with heap := h'', toks := tk + 1 } :=
      I.turnedNew (ch := [e, it]) (fun b ob hb q => (sb.2 b (fun z => hb (by simp [z]))).trans (hk b ob (fun z => hb (by simp [z])) (fun z => hb (by simp [z])) q)) hf (Nat.le_refl _) new
    refine ⟨.ref s.heap.objs.size, _, I1, rfl, ⟨_, x, rfl, I.hok.fresh (Nat.le_refl _), rfl, fun ys hy => by rw [I.tuple_inj hy hq]; exact hx⟩, ⟨⟨u', ?_⟩, st'.1.at fun o q => (sb.2 it (Ne.symm hne)).trans q, hne⟩, fun b hb => ?_⟩
    · have e1 : ((i + 1 : Nat) : Int) = (i : Int) + 1 := by omega
      rw [e1]; exact he'
    · have hb' : b < s.heap.objs.size := by
        have e' : b = e ∨ b = it := by simpa using hb
        rcases e' with z | z
        · rw [z]; exact hel
        · rw [z]; exact hil
      rw [upd_ne (Nat.ne_of_lt hb')]
      exact (hf b hb).1
  done := by
    intro X hP hw hK hc i pins s σ H E I hf st hg
    subst hP hw hK
    obtain ⟨⟨old, he⟩, hit, hne⟩ := st
    obtain ⟨xs, hq, hx⟩ := hg
    obtain ⟨its, rv, p, hz⟩ := I.tuple hq
    obtain ⟨f0, f1, f2, f3, f4, f5⟩ := hf it (by simp)
    have hl := rv.length
    have hai : a ≠ it := fun z => by
      subst z
      obtain ⟨o, ho, hc', _⟩ := p
      obtain ⟨o2, ho2, hc2, _⟩ := hit
      rw [ho] at ho2
      cases ho2
      rw [hc'] at hc2
      exact absurd hc2 (by intro z; injection z with z; exact absurd z (by decide))
    have ei : i = its.toArray.size := by rw [← hx]; simpa using hl
    exact wpAny_pyNext_enum_endD (n := its.toArray.size) (Draws.tuple (show X.A.in1.handled = none from I.ok.hd hc) it a hai its.toArray) he ⟨by rw [← ei]; exact hit, p⟩ fun h' eb => ⟨rfl, I.turned (t' := s.toks) (fun b o hb q => eb b o hb q) f0 f1 f3 f4 f5⟩
  self := fun A i s Q E st h => let ⟨⟨_, he⟩, _⟩ := st; wpAny_pyIter_enum he h

/-! ### what is walked -/
structure JOk (K : PySem.W.Frag) (C : Ctx) (W : Wd) (s : Src) (J : L2.It) : Prop where
  go : ∀ i W' S' H', Le W W' → SR K C W' S' H' → s.ok S' → ∀ a, s.xs[i]? = some a → J.go i H' ∧ ∀ x H'', J.yld i H' x H'' → ∃ W'', Tr W' S' H' W'' S' H'' ∧ SR K C W'' S' H'' ∧ RV K W'' a x
  stop : ∀ W' S' H', Le W W' → SR K C W' S' H' → s.ok S' → J.stop s.xs.length H'
def dI (K : PySem.W.Frag) (C : Ctx) (Ex : L2.St → XD) (ev : Rho → M Src) : TI := fun σ H R => ∃ W S ρ, SR K C W S H ∧ RE K W ρ σ ∧ Run K C (Ex σ) (JOk K C) (ev ρ S) W S H R
theorem PI.weak {X : Cx} {tg e : Expr} {t t' : TI} (h : PI X tg e t) (k : ∀ σ H Q, t' σ H Q → t σ H Q) : PI X tg e t' := ⟨fun pins s σ H Q I q => h.run pins s σ H Q I (k σ H Q q)⟩
abbrev PId (X : Cx) (C : Ctx) (Ex : L2.St → XD) (tg x : Expr) (ev : Rho → M Src) : Prop := PI X tg x (dI X.K C Ex ev)
theorem Src.ok_none {xs : List Vl} {S : Store} : Src.ok ⟨xs, none⟩ S := True.intro
section
variable {K : PySem.W.Frag} {C : Ctx}
theorem tr_same {W : Wd} {S : Store} {H : Hp} {a : Vl} {x : V} (s : SR K C W S H) (r : RV K W a x) : ∃ W'', Tr W S H W'' S H ∧ SR K C W'' S H ∧ RV K W'' a x := ⟨W, Tr.refl s, s, r⟩
/-- a list that stands still -/
theorem jok_list {W : Wd} {p : Addr} {s : Src} (st : ∀ W' S' H', Le W W' → SR K C W' S' H' → s.ok S' → ∃ vs, SqL K H' p vs ∧ RVs K W' s.xs vs) : JOk K C W s (Itl K p) where
  go := fun i W' S' H' l sr hok a ha => by
    obtain ⟨vs, sq, r⟩ := st W' S' H' l sr hok
    obtain ⟨v, hv, rv⟩ := Paired.at r ha
    exact ⟨⟨vs, v, sq, hv⟩, fun x H'' ⟨e, y⟩ => by
      subst e
      have := y vs sq
      rw [hv] at this
      cases this
      exact tr_same sr rv⟩
  stop := fun W' S' H' l sr hok => by
    obtain ⟨vs, sq, r⟩ := st W' S' H' l sr hok
    exact ⟨vs, sq, by rw [rvs_len r]; exact Nat.le_refl _⟩
theorem jok_tup {W : Wd} {p : Addr} {s : Src} (st : ∀ W' S' H', Le W W' → SR K C W' S' H' → s.ok S' → ∃ vs, SqT K H' p vs ∧ RVs K W' s.xs vs) : JOk K C W s (Itt K p) where
  go := fun i W' S' H' l sr hok a ha => by
    obtain ⟨vs, sq, r⟩ := st W' S' H' l sr hok
    obtain ⟨v, hv, rv⟩ := Paired.at r ha
    exact ⟨⟨vs, v, sq, hv⟩, fun x H'' ⟨e, y⟩ => by
      subst e
      have := y vs sq
      rw [hv] at this
      cases this
      exact tr_same sr rv⟩
  stop := fun W' S' H' l sr hok => by
    obtain ⟨vs, sq, r⟩ := st W' S' H' l sr hok
    exact ⟨vs, sq, by rw [rvs_len r]; exact Nat.le_refl _⟩
theorem jok_revL {W : Wd} {p : Addr} {s : Src} {n : Nat} (hn : s.xs.length = n) (st : ∀ W' S' H', Le W W' → SR K C W' S' H' → s.ok S' → ∃ vs, SqL K H' p vs ∧ RVs K W' s.xs vs.reverse) : JOk K C W s (Itv K p n) where
  go := fun i W' S' H' l sr hok a ha => by
    obtain ⟨vs, sq, r⟩ := st W' S' H' l sr hok
    obtain ⟨v, hv, rv⟩ := Paired.at r ha
    have hl := rvs_len r
    rw [List.length_reverse] at hl
    have hi := (List.getElem?_eq_some_iff.mp hv).1
    rw [List.length_reverse] at hi
    rw [List.getElem?_reverse hi, show vs.length - 1 - i = n - 1 - i by omega] at hv
    exact ⟨⟨by omega, vs, v, sq, hv⟩, fun x H'' ⟨e, y⟩ => by
      subst e
      have := y vs sq
      rw [hv] at this
      cases this
      exact tr_same sr rv⟩
  stop := fun W' S' H' l sr hok => by
    show n ≤ s.xs.length
    omega
theorem jok_revT {W : Wd} {p : Addr} {s : Src} {n : Nat} (hn : s.xs.length = n) (st : ∀ W' S' H', Le W W' → SR K C W' S' H' → s.ok S' → ∃ vs, SqT K H' p vs ∧ RVs K W' s.xs vs.reverse) : JOk K C W s (RT.ItvT K p n) where
  go := fun i W' S' H' l sr hok a ha => by
    obtain ⟨vs, sq, r⟩ := st W' S' H' l sr hok
    obtain ⟨v, hv, rv⟩ := Paired.at r ha
    have hl := rvs_len r
    rw [List.length_reverse] at hl
    have hi := (List.getElem?_eq_some_iff.mp hv).1
    rw [List.length_reverse] at hi
    rw [List.getElem?_reverse hi, show vs.length - 1 - i = n - 1 - i by omega] at hv
    exact ⟨⟨by omega, vs, v, sq, hv⟩, fun x H'' ⟨e, y⟩ => by
      subst e
      have := y vs sq
      rw [hv] at this
      cases this
      exact tr_same sr rv⟩
  stop := fun W' S' H' l sr hok => by
    show n ≤ s.xs.length
    omega
theorem new_pair {W : Wd} {S : Store} {H : Hp} {T : Addr} {a b : PyData} {x y : V} (s : SR K C W S H) (hT : H T = none) (ra : RV K W (.d a) x) (rb : RV K W (.d b) y) :
    ∃ W'', Tr W S H W'' S (upd H T (.tup [x, y])) ∧ SR K C W'' S (upd H T (.tup [x, y])) ∧ RV K W'' (.d (.tuple [a, b])) (.ref T) := by
  obtain ⟨t, s'⟩ := s.laid (.tup [x, y]) hT
  refine ⟨_, t, s', .tup (.inl (.inl (by show upd W.z T _ T = _; exact upd_same))) (.cons (ra.mono t.le).1 (.cons (rb.mono t.le).1 .nil)), ?_⟩
  simp only [PyData.canLay0, PyData.canLayAll0, ra.2, rb.2, Bool.and_self]
theorem enumL_get {xs : List PyData} {i : Nat} {a : Vl} (h : (enumL xs)[i]? = some a) : ∃ x, xs[i]? = some x ∧ a = .d (.tuple [.int (i : Nat), x]) := by
  unfold enumL at h
  rw [List.getElem?_map, List.getElem?_zipIdx] at h
  cases e : xs[i]? with
  | none => rw [e] at h; cases h
  | some x => rw [e] at h; cases h; exact ⟨x, rfl, by simp⟩
theorem enumL_len (xs : List PyData) : (enumL xs).length = xs.length := by unfold enumL; simp
theorem jok_enumL {W : Wd} {p : Addr} {xs : List PyData} {g : Option (Nat × List Vl)} (st : ∀ W' S' H', Le W W' → SR K C W' S' H' → Src.ok ⟨enumL xs, g⟩ S' → ∃ vs, SqL K H' p vs ∧ RVs K W' (xs.map .d) vs) : JOk K C W ⟨enumL xs, g⟩ (Ite K p) where
  go := fun i W' S' H' l sr hok a ha => by
    obtain ⟨vs, sq, r⟩ := st W' S' H' l sr hok
    obtain ⟨x, hx, rfl⟩ := enumL_get ha
    obtain ⟨v, hv, rv⟩ := Paired.at (i := i) (a := .d x) r (by rw [List.getElem?_map, hx]; rfl)
    exact ⟨⟨vs, v, sq, hv⟩, fun y H'' ⟨T, z, e1, e2, e3, e4⟩ => by
      subst e1; subst e3
      have := e4 vs sq
      rw [hv] at this
      cases this
      exact new_pair sr e2 (int_rv _) rv⟩
  stop := fun W' S' H' l sr hok => by
    obtain ⟨vs, sq, r⟩ := st W' S' H' l sr hok
    exact ⟨vs, sq, by rw [show (Src.xs ⟨enumL xs, g⟩).length = xs.length from enumL_len xs, len_map r]; exact Nat.le_refl _⟩
theorem jok_enumT {W : Wd} {p : Addr} {xs : List PyData} {g : Option (Nat × List Vl)} (st : ∀ W' S' H', Le W W' → SR K C W' S' H' → Src.ok ⟨enumL xs, g⟩ S' → ∃ vs, SqT K H' p vs ∧ RVs K W' (xs.map .d) vs) : JOk K C W ⟨enumL xs, g⟩ (IteT K p) where
  go := fun i W' S' H' l sr hok a ha => by
    obtain ⟨vs, sq, r⟩ := st W' S' H' l sr hok
    obtain ⟨x, hx, rfl⟩ := enumL_get ha
    obtain ⟨v, hv, rv⟩ := Paired.at (i := i) (a := .d x) r (by rw [List.getElem?_map, hx]; rfl)
    exact ⟨⟨vs, v, sq, hv⟩, fun y H'' ⟨T, z, e1, e2, e3, e4⟩ => by
      subst e1; subst e3
      have := e4 vs sq
      rw [hv] at this
      cases this
      exact new_pair sr e2 (int_rv _) rv⟩
  stop := fun W' S' H' l sr hok => by
    obtain ⟨vs, sq, r⟩ := st W' S' H' l sr hok
    exact ⟨vs, sq, by rw [show (Src.xs ⟨enumL xs, g⟩).length = xs.length from enumL_len xs, len_map r]⟩
/-- what stands still of a value that is a sequence -/
theorem still {W W' : Wd} {S S' : Store} {H H' : Hp} {v : Vl} {x : V} {ds : List PyData} {ys : List Vl} (s : SR K C W S H) (r : RV K W v x) (e : seqD S v = some ds) (l : Le W W') (s' : SR K C W' S' H') (hok : Src.ok ⟨ys, guardOf S v⟩ S') :
    seqD S' v = some ds ∧ RV K W' v x := by
  refine ⟨?_, r.mono l⟩
  cases v with
  | d y => cases y <;> exact e
  | scr ns => exact e
  | loc n =>
    cases q : S[n]? with
    | none => simp only [seqD, rdL, q] at e; cases e
    | some o =>
      cases o with
      | lst xs =>
        simp only [guardOf, q] at hok
        have hok : S'[n]? = some (.lst xs) := hok
        simp only [seqD, rdL, q] at e
        simp only [seqD, rdL, hok]
        exact e
      | _ => simp only [seqD, rdL, q] at e; cases e
end
section
variable {X : Cx} {C : Ctx} {Ex : L2.St → XD} {tg : Expr}
/-- a value walked: a list, a tuple, a text -/
theorem pi_any {e : Expr} {te : TE} (he : PE X e te) : PI X tg e (fun σ H R => te σ H fun x H1 => (∃ a, x = .ref a ∧ (∃ xs, SqL X.K H1 a xs) ∧ R (Itl X.K a) H1) ∨ (∃ a, x = .ref a ∧ (∃ xs, SqT X.K H1 a xs) ∧ R (Itt X.K a) H1) ∨ ∃ z, x = .str z ∧ R (Its z) H1) := by
  refine ⟨fun pins s σ H R I h => ?_⟩
  refine thn (he.run pins s σ H _ I h) fun v s1 ⟨x, H1, I1, r1, q1⟩ => ?_
  rcases q1 with ⟨a, e, ⟨xs, hq⟩, q⟩ | ⟨a, e, ⟨xs, hq⟩, q⟩ | ⟨z, ex, q⟩
  · subst e
    cases r1
    obtain ⟨its, rv, p, hz⟩ := I1.list hq
    exact wpAny_pyIter_list p.isList (pi_one (tk := s1.toks) I1 _ (turn_list a _) ⟨_, Heap.get?_push_size _ rfl, rfl, rfl⟩ q)
  · subst e
    cases r1
    obtain ⟨its, rv, p, hz⟩ := I1.tuple hq
    exact wpAny_pyIter_tuple (show s1.heap.IsTuple a its.toArray from p) (pi_one (tk := s1.toks) I1 _ (turn_tuple a _) ⟨_, Heap.get?_push_size _ rfl, rfl, rfl⟩ q)
  · subst ex
    obtain ⟨t, rfl⟩ := r1
    cases ha : z.cps.all (· < 128)
    · exact wpAny_pyIter_wide ha (pi_one (tk := s1.toks) I1 _ (turn_str _ z t "str_iterator" (.inr rfl)) ⟨_, Heap.get?_push_size _ rfl, rfl, rfl⟩ q)
    · exact wpAny_pyIter_ascii ha (pi_one (tk := s1.toks) I1 _ (turn_str _ z t "str_ascii_iterator" (.inl rfl)) ⟨_, Heap.get?_push_size _ rfl, rfl, rfl⟩ q)
theorem i_val {e : Expr} {ev : Rho → M Vl} (he : PEd X C Ex e ev) : PId X C Ex tg e (fun ρ => bnd (ev ρ) srcV) := by
  refine PI.weak (pi_any he) fun σ H R ⟨W, S, ρ, s, r, q⟩ => ?_
  refine dT.one s r q fun x S1 W1 H1 v l1 s1 r1 rx q => ?_
  cases x with
  | scr ns => exact False.elim q
  | loc n =>
    cases es : S1[n]? with
    | none => simp only [srcV, es] at q; exact False.elim q
    | some o =>
      cases o with
      | lst xs =>
        simp only [srcV, es] at q
        obtain ⟨p, vs, ex, sq, rv⟩ := rdL_at s1 rx (show rdL S1 (.loc n) = some xs by simp only [rdL, es])
        refine .inl ⟨p, ex, ⟨vs, sq⟩, Run.now s1 q (jok_list fun W' S' H' l' s' hok => ?_)⟩
        have hok : S'[n]? = some (.lst xs) := hok
        obtain ⟨p', vs', ex', sq', rv'⟩ := rdL_at s' (rx.mono l') (show rdL S' (.loc n) = some xs by simp only [rdL, hok])
        rw [ex] at ex'
        cases ex'
        exact ⟨vs', sq', rv'⟩
      | _ => simp only [srcV, es] at q; exact False.elim q
  | d y =>
    cases y <;> first | exact False.elim q | skip
    · rename_i z
      have e := rv_str rx
      have hz := rv_strOk rx
      refine .inr (.inr ⟨z, e, Run.now s1 q ⟨fun i W' S' H' l' s' hok a ha => ?_, fun W' S' H' l' s' hok => ?_⟩⟩)
      · have ha : (bits z)[i]? = some a := ha
        unfold bits at ha
        rw [List.getElem?_map] at ha
        cases ec : z.cps.toList[i]? with
        | none => rw [ec] at ha; cases ha
        | some c =>
          rw [ec] at ha
          cases ha
          have hi := (List.getElem?_eq_some_iff.mp ec).1
          refine ⟨show i < z.cps.size by simpa using hi, fun x H'' ⟨e1, c', hc', e2⟩ => ?_⟩
          subst e1
          have hcc : z.cps.toList[i]? = some c' := by rw [Array.getElem?_toList]; exact hc'
          rw [ec] at hcc
          cases hcc
          subst e2
          exact tr_same s' (str_rv (strOk_one hz (List.mem_of_getElem? ec)))
      · show z.cps.size ≤ (bits z).length
        unfold bits
        simp
    · rename_i ds
      obtain ⟨p, vs, ex, sq, rv⟩ := rdL_at s1 rx rfl
      refine .inl ⟨p, ex, ⟨vs, sq⟩, Run.now s1 q (jok_list fun W' S' H' l' s' hok => ?_)⟩
      obtain ⟨p', vs', ex', sq', rv'⟩ := rdL_at s' (rx.mono l') rfl
      rw [ex] at ex'
      cases ex'
      exact ⟨vs', sq', rv'⟩
    · rename_i ds
      obtain ⟨p, vs, ex, sq, rv⟩ := tup_at s1 rx
      refine .inr (.inl ⟨p, ex, ⟨vs, sq⟩, Run.now s1 q (jok_tup fun W' S' H' l' s' hok => ?_)⟩)
      obtain ⟨p', vs', ex', sq', rv'⟩ := tup_at s' (rx.mono l')
      rw [ex] at ex'
      cases ex'
      exact ⟨vs', sq', rv'⟩
theorem jok_range {W : Wd} {lo hi : Int} : JOk X.K C W ⟨(List.range (hi - lo).toNat).map fun (i : Nat) => Vl.d (.int (lo + (i : Int))), none⟩ (Itr lo (hi - lo).toNat) where
  go := fun i W' S' H' l sr hok a ha => by
    have ha : ((List.range (hi - lo).toNat).map fun (i : Nat) => Vl.d (.int (lo + (i : Int))))[i]? = some a := ha
    rw [List.getElem?_map] at ha
    cases e : (List.range (hi - lo).toNat)[i]? with
    | none => rw [e] at ha; cases ha
    | some j =>
      rw [e] at ha
      cases ha
      have hi' := (List.getElem?_eq_some_iff.mp e).1
      rw [List.length_range] at hi'
      rw [List.getElem?_range hi'] at e
      cases e
      refine ⟨hi', fun x H'' ⟨e1, e2⟩ => ?_⟩
      subst e1; subst e2
      exact tr_same sr (int_rv _)
  stop := fun W' S' H' l sr hok => by
    show (hi - lo).toNat ≤ ((List.range (hi - lo).toNat).map fun (i : Nat) => Vl.d (.int (lo + (i : Int)))).length
    rw [List.length_map, List.length_range]
    exact Nat.le_refl _
theorem i_rng1 {a : Expr} {p pos : Pos} {ev : Rho → M Vl} (hg : Gl X "range") (hm : X.mg "range" = none) (ha : PEd X C Ex a ev) (hs : starEach [a] X.env = [(false, eval a X.env)]) :
    PId X C Ex tg (.Call (.Name "range" p) [a] [] pos) (fun ρ => bnd (ev ρ) fun x => match x with | .d (.int i) => rngV 0 i | _ => bad) := by
  refine PI.weak (pi_range1 hg hm (pa_cons ha pa_nil hs) hs) fun σ H R ⟨W, S, ρ, s, r, q⟩ => ?_
  refine dT.one s r q fun x S1 W1 H1 v l1 s1 r1 rx q => ?_
  cases x with
  | d y =>
    cases y <;> first | exact False.elim q | skip
    rename_i j
    have e := rv_int rx
    subst e
    have q : Run X.K C (Ex σ) (JOk X.K C) (rngV 0 j S1) W1 S1 H1 R := q
    unfold rngV at q
    by_cases hb : -(2 ^ 62) ≤ (0 : Int) ∧ (0 : Int) < 2 ^ 62 ∧ -(2 ^ 62) ≤ j ∧ j < 2 ^ 62
    · rw [if_pos hb] at q
      refine ⟨j, rfl, hb.2.2.1, hb.2.2.2, ?_⟩
      have := Run.now s1 q jok_range
      rw [Int.sub_zero] at this
      exact this
    · rw [if_neg hb] at q; exact False.elim q
  | _ => exact False.elim q
theorem i_rng2 {a b : Expr} {p pos : Pos} {ea eb : Rho → M Vl} (hg : Gl X "range") (hm : X.mg "range" = none) (ha : PEd X C Ex a ea) (hb : PEd X C Ex b eb) (hs : starEach [a, b] X.env = [(false, eval a X.env), (false, eval b X.env)]) (hs2 : starEach [b] X.env = [(false, eval b X.env)]) :
    PId X C Ex tg (.Call (.Name "range" p) [a, b] [] pos) (fun ρ => bnd (ea ρ) fun x => bnd (eb ρ) fun y => match x, y with | .d (.int i), .d (.int j) => rngV i j | _, _ => bad) := by
  refine PI.weak (pi_range2 hg hm (pa_cons ha (pa_cons hb pa_nil hs2) (by rw [hs, hs2])) hs hs2) fun σ H R ⟨W, S, ρ, s, r, q⟩ => ?_
  refine dT.one s r q fun x S1 W1 H1 v l1 s1 r1 rx q => ?_
  refine dT.one s1 r1 q fun y S2 W2 H2 u l2 s2 r2 ry q => ?_
  rcases x with (_ | _ | i | _ | _ | _ | _) | _ | _ <;> first | exact False.elim q | skip
  rcases y with (_ | _ | j | _ | _ | _ | _) | _ | _ <;> first | exact False.elim q | skip
  have e := rv_int rx
  have e2 := rv_int ry
  subst e; subst e2
  have q : Run X.K C (Ex σ) (JOk X.K C) (rngV i j S2) W2 S2 H2 R := q
  unfold rngV at q
  by_cases hb : -(2 ^ 62) ≤ i ∧ i < 2 ^ 62 ∧ -(2 ^ 62) ≤ j ∧ j < 2 ^ 62
  · rw [if_pos hb] at q
    exact ⟨i, j, rfl, hb, Run.now s2 q jok_range⟩
  · rw [if_neg hb] at q; exact False.elim q
theorem jok_down {W : Wd} {hi : Int} {n : Nat} : JOk X.K C W ⟨(List.range n).map fun (i : Nat) => Vl.d (.int (hi + (i : Int) * (-1))), none⟩ (Itc hi (-1) n) where
  go := fun i W' S' H' l sr hok a ha => by
    have ha : ((List.range n).map fun (i : Nat) => Vl.d (.int (hi + (i : Int) * (-1))))[i]? = some a := ha
    rw [List.getElem?_map] at ha
    cases e : (List.range n)[i]? with
    | none => rw [e] at ha; cases ha
    | some j =>
      rw [e] at ha
      cases ha
      have hi' := (List.getElem?_eq_some_iff.mp e).1
      rw [List.length_range] at hi'
      rw [List.getElem?_range hi'] at e
      cases e
      refine ⟨hi', fun x H'' ⟨e1, e2⟩ => ?_⟩
      subst e1; subst e2
      exact tr_same sr (int_rv _)
  stop := fun W' S' H' l sr hok => by
    show n ≤ ((List.range n).map fun (i : Nat) => Vl.d (.int (hi + (i : Int) * (-1)))).length
    rw [List.length_map, List.length_range]
    exact Nat.le_refl _
theorem i_rng3 {a b c : Expr} {p pos : Pos} {ea eb ec : Rho → M Vl} (hg : Gl X "range") (hm : X.mg "range" = none) (ha : PEd X C Ex a ea) (hb : PEd X C Ex b eb) (hc : PEd X C Ex c ec) (hs1 : starEach [a, b, c] X.env = (false, eval a X.env) :: starEach [b, c] X.env) (hs2 : starEach [b, c] X.env = (false, eval b X.env) :: starEach [c] X.env) (hs3 : starEach [c] X.env = (false, eval c X.env) :: starEach [] X.env) (hpl : (backTo pos (starEach [b, c] X.env)).any (·.1) = false) :
    PId X C Ex tg (.Call (.Name "range" p) [a, b, c] [] pos) (fun ρ => bnd (ea ρ) fun x => bnd (eb ρ) fun y => bnd (ec ρ) fun z => match x, y, z with | .d (.int i), .d (.int j), .d (.int k) => rngD i j k | _, _, _ => bad) := by
  refine PI.weak (pi_range3 hg hm (pa_cons ha (pa_cons hb (pa_cons hc pa_nil hs3) hs2) hs1) hs1 hpl) fun σ H R ⟨W, S, ρ, s, r, q⟩ => ?_
  refine dT.one s r q fun x S1 W1 H1 v l1 s1 r1 rx q => ?_
  refine dT.one s1 r1 q fun y S2 W2 H2 u l2 s2 r2 ry q => ?_
  refine dT.one s2 r2 q fun z S3 W3 H3 w l3 s3 r3 rz q => ?_
  rcases x with (_ | _ | i | _ | _ | _ | _) | _ | _ <;> first | exact False.elim q | skip
  rcases y with (_ | _ | j | _ | _ | _ | _) | _ | _ <;> first | exact False.elim q | skip
  rcases z with (_ | _ | k | _ | _ | _ | _) | _ | _ <;> first | exact False.elim q | skip
  have e := rv_int rx
  have e2 := rv_int ry
  have e3 := rv_int rz
  subst e; subst e2; subst e3
  have q' : Run X.K C (Ex σ) (JOk X.K C) (rngD i j k S3) W3 S3 H3 R := q
  unfold rngD at q'
  by_cases hb : k = -1 ∧ -(2 ^ 62) ≤ j ∧ j < 2 ^ 62 ∧ -(2 ^ 62) ≤ i ∧ i < 2 ^ 62
  · rw [if_pos hb] at q'
    obtain ⟨hk, h1, h2, h3, h4⟩ := hb
    exact ⟨i, j, k, (i - j).toNat, rfl, by rw [hk]; exact RgC.neg h3 h4 h1 h2, by rw [hk]; exact Run.now s3 q' jok_down⟩
  · rw [if_neg hb] at q'; exact False.elim q'
/-- enumerate of a list or a tuple -/
theorem pi_enumA {e : Expr} {ta : TA} {p pos tpos : Pos} {elts : List Expr} {kk : Nat} (hg : Gl X "enumerate") (hm : X.mg "enumerate" = none) (ha : PA X [e] ta) (hs : starEach [e] X.env = [(false, eval e X.env)]) :
    PI X (.Tuple elts kk tpos) (.Call (.Name "enumerate" p) [e] [] pos) (fun σ H R => ta σ H fun vs H1 => ∃ a xs, vs = [.ref a] ∧ ((SqL X.K H1 a xs ∧ R (Ite X.K a) H1) ∨ (SqT X.K H1 a xs ∧ R (IteT X.K a) H1))) := by
  refine ⟨fun pins s σ H R I h => ?_⟩
  refine Call_ (ld_blt I hg hm boot_enumerate (PyProof.Rows.callWith_type1 (thn (ha.run pos pins s σ H _ I h) fun us s1 ⟨vs, H1, I1, r1, q1⟩ => ?_) hs rfl))
  obtain ⟨a, xs, ex, q⟩ := q1
  subst ex
  cases r1 with
  | cons r rr =>
    cases rr
    cases r
    have fin : ∀ {h' : Heap} {J : L2.It} {tn : Nat → Heap → Prop}, (∀ b o, s1.heap.get? b = some o → h'.get? b = some o) → Turn X.prog X.w X.K (.Tuple elts kk tpos) J [s1.heap.objs.size + 1, s1.heap.objs.size] (s1.heap.objs.size + 1) tn → tn 0 h' → R J H1 →
        PIE X pins σ (.Tuple elts kk tpos) R (.ref (s1.heap.objs.size + 1)) { s1 with heap := h' } := fun {h' J tn} hk T st q => by
      refine ⟨s1.heap.objs.size + 1, [s1.heap.objs.size + 1, s1.heap.objs.size], _, _, H1, rfl, I1.kept (t' := s1.toks) hk, T, st, fun b hb => ?_, q⟩
      have e' : b = s1.heap.objs.size + 1 ∨ b = s1.heap.objs.size := by simpa using hb
      rcases e' with z | z
      · rw [z]; exact I1.fpOk (Nat.le_succ _) (I1.hok.fresh (Nat.le_succ _))
      · rw [z]; exact I1.fpOk (Nat.le_refl _) (I1.hok.fresh (Nat.le_refl _))
    rcases q with ⟨hq, q⟩ | ⟨hq, q⟩
    · obtain ⟨its, rv, p', hz⟩ := I1.list hq
      exact call_enumerate_list p'.isList fun h' he hit hsz hk => wpAny_pyIter_enum he (fin hk (turn_enum a _ _) ⟨⟨.none, he⟩, hit, Nat.succ_ne_self _⟩ q)
    · obtain ⟨its, rv, p', hz⟩ := I1.tuple hq
      exact dl_enum_begins (begins_tuple a its.toArray) p' fun h' he hit hsz hk => wpAny_pyIter_enum he (fin hk (turn_enumT a _ _) ⟨⟨.none, he⟩, ⟨_, hit, rfl, rfl⟩, Nat.succ_ne_self _⟩ q)
theorem i_enum {e : Expr} {p pos tpos : Pos} {elts : List Expr} {kk : Nat} {ev : Rho → M Vl} (hg : Gl X "enumerate") (hm : X.mg "enumerate" = none) (he : PEd X C Ex e ev) (hs : starEach [e] X.env = [(false, eval e X.env)]) :
    PId X C Ex (.Tuple elts kk tpos) (.Call (.Name "enumerate" p) [e] [] pos) (fun ρ => bnd (ev ρ) enumV) := by
  refine PI.weak (pi_enumA hg hm (pa_cons he pa_nil hs) hs) fun σ H R ⟨W, S, ρ, s, r, q⟩ => ?_
  refine dT.one s r q fun x S1 W1 H1 v l1 s1 r1 rx q => ?_
  cases e1 : seqD S1 x with
  | none => simp only [enumV, e1] at q; exact False.elim q
  | some ds =>
    simp only [enumV, e1] at q
    by_cases ht : ∃ xs, x = .d (.tuple xs)
    · obtain ⟨xs, rfl⟩ := ht
      cases e1
      obtain ⟨p', vs', ex', sq', rv'⟩ := tup_at s1 rx
      refine ⟨p', vs', by rw [ex'], .inr ⟨sq', Run.now s1 q (jok_enumT fun W' S' H' l' s' hok => ?_)⟩⟩
      obtain ⟨p2, vs2, ex2, sq2, rv2⟩ := tup_at s' (rx.mono l')
      rw [ex'] at ex2
      cases ex2
      exact ⟨vs2, sq2, rv2⟩
    · have el : ∀ S, seqD S x = (rdL S x).bind pds := fun S => by
        cases x with
        | d y => cases y <;> first | rfl | exact absurd ⟨_, rfl⟩ ht
        | _ => rfl
      obtain ⟨p', vs', ex', sq', rv'⟩ := listD_at s1 rx (by rw [← el]; exact e1)
      refine ⟨p', vs', by rw [ex'], .inl ⟨sq', Run.now s1 q (jok_enumL fun W' S' H' l' s' hok => ?_)⟩⟩
      obtain ⟨e2, rx2⟩ := still s1 rx e1 l' s' hok
      obtain ⟨p2, vs2, ex2, sq2, rv2⟩ := listD_at s' rx2 (by rw [← el]; exact e2)
      rw [ex'] at ex2
      cases ex2
      exact ⟨vs2, sq2, rv2⟩
theorem seq_list {x : Vl} (ht : ¬ ∃ xs, x = .d (.tuple xs)) (S : Store) : seqD S x = (rdL S x).bind pds := by
  cases x with
  | d y => cases y <;> first | rfl | exact absurd ⟨_, rfl⟩ ht
  | _ => rfl
theorem i_rev {e : Expr} {p pos : Pos} {ev : Rho → M Vl} (hg : Gl X "reversed") (hm : X.mg "reversed" = none) (he : PEd X C Ex e ev) (hs : starEach [e] X.env = (false, eval e X.env) :: starEach [] X.env) :
    PId X C Ex tg (.Call (.Name "reversed" p) [e] [] pos) (fun ρ => bnd (ev ρ) revV) := by
  refine PI.weak (RT.pi_revA hg hm he hs) fun σ H R ⟨W, S, ρ, s, r, q⟩ => ?_
  refine dT.one s r q fun x S1 W1 H1 v l1 s1 r1 rx q => ?_
  cases e1 : seqD S1 x with
  | none => simp only [revV, e1] at q; exact False.elim q
  | some ds =>
    simp only [revV, e1] at q
    have hlen : ∀ n, ds.length = n → (Src.xs ⟨ds.reverse.map .d, guardOf S1 x⟩).length = n := fun n h => by
      show (ds.reverse.map Vl.d).length = n
      rw [List.length_map, List.length_reverse, h]
    by_cases ht : ∃ xs, x = .d (.tuple xs)
    · obtain ⟨xs, rfl⟩ := ht
      cases e1
      obtain ⟨p', vs', ex', sq', rv'⟩ := tup_at s1 rx
      refine ⟨p', vs', ex', .inr ⟨sq', Run.now s1 q (jok_revT (hlen _ (len_map rv')) fun W' S' H' l' s' hok => ?_)⟩⟩
      obtain ⟨p2, vs2, ex2, sq2, rv2⟩ := tup_at s' (rx.mono l')
      rw [ex'] at ex2
      cases ex2
      exact ⟨vs2, sq2, by show RVs X.K W' (ds.reverse.map .d) _; rw [List.map_reverse]; exact rvs_reverse rv2⟩
    · obtain ⟨p', vs', ex', sq', rv'⟩ := listD_at s1 rx (by rw [← seq_list ht]; exact e1)
      refine ⟨p', vs', ex', .inl ⟨sq', Run.now s1 q (jok_revL (hlen _ (len_map rv')) fun W' S' H' l' s' hok => ?_)⟩⟩
      obtain ⟨e2, rx2⟩ := still s1 rx e1 l' s' hok
      obtain ⟨p2, vs2, ex2, sq2, rv2⟩ := listD_at s' rx2 (by rw [← seq_list ht]; exact e2)
      rw [ex'] at ex2
      cases ex2
      exact ⟨vs2, sq2, by show RVs X.K W' (ds.reverse.map .d) _; rw [List.map_reverse]; exact rvs_reverse rv2⟩
end
end DL

namespace DL
open PySem PySem.Spec PyProof.Rows L2
/-! ### targets -/
mutual
def gT (K : PySem.W.Frag) : Tg → TG
  | .nm i => gName i
  | .tp ts => gTup K (lenTs ts) (gTs K ts)
def gTs (K : PySem.W.Frag) : Tgs → TGs
  | .nil => gNil
  | .cons t r => gCons (gT K t) (gTs K r)
def lenTs : Tgs → Nat
  | .nil => 0
  | .cons _ r => lenTs r + 1
end
mutual
def slots : Tg → List Nat
  | .nm i => [i]
  | .tp ts => slotss ts
def slotss : Tgs → List Nat
  | .nil => []
  | .cons t r => slots t ++ slotss r
end
theorem wipe_get (σ : L2.St) : ∀ (vs : List Nat) (j : Nat), (wipe σ vs)[j]? = if j ∈ vs then (if j < σ.length then some none else none) else σ[j]?
  | [], j => by simp [wipe]
  | v :: vs, j => by
    unfold wipe
    have ih := wipe_get σ vs j
    rw [List.getElem?_set, wipe_length, ih]
    by_cases h : v = j
    · subst h
      by_cases hl : v < σ.length
      · simp [hl]
      · simp [hl]
    · have h' : j ≠ v := fun z => h z.symm
      simp [h, h']
theorem wipe_set {σ : L2.St} {i : Nat} {x : Option V} {vs : List Nat} (h : i ∈ vs) : wipe (σ.set i x) vs = wipe σ vs := by
  apply List.ext_getElem?
  intro j
  rw [wipe_get, wipe_get, List.length_set]
  by_cases hj : j ∈ vs
  · simp [hj]
  · have : i ≠ j := fun z => hj (z ▸ h)
    rw [if_neg hj, if_neg hj, List.getElem?_set_ne this]
theorem wipe_wipe (σ : L2.St) (vs : List Nat) : wipe (wipe σ vs) vs = wipe σ vs := by
  apply List.ext_getElem?
  intro j
  rw [wipe_get, wipe_length]
  by_cases hj : j ∈ vs
  · rw [if_pos hj, wipe_get, if_pos hj]
  · rw [if_neg hj]
section
variable {K : PySem.W.Frag} {C : Ctx}
theorem RE.set {W : Wd} : ∀ {ρ : Rho} {σ : L2.St} (i : Nat) {a : Vl} {v : V}, RE K W ρ σ → RV K W a v → RE K W (ρ.set i (some a)) (σ.set i (some v))
  | _, _, _, _, _, .nil, _ => .nil
  | _, _, 0, _, _, .cons h t, r => .cons (fun d e => by cases e; exact ⟨_, rfl, r⟩) t
  | _, _, i + 1, _, _, .cons h t, r => .cons h (RE.set i t r)
theorem RE.drop1 {W : Wd} : ∀ {ρ : Rho} {σ : L2.St} (i : Nat), RE K W ρ σ → RE K W (ρ.set i none) (σ.set i none)
  | _, _, _, .nil => .nil
  | _, _, 0, .cons h t => .cons (fun d e => by cases e) t
  | _, _, i + 1, .cons h t => .cons h (RE.drop1 i t)
theorem RE.wipe {W : Wd} {ρ : Rho} {σ : L2.St} (r : RE K W ρ σ) : ∀ vs, RE K W (wipeR ρ vs) (L2.wipe σ vs)
  | [] => r
  | v :: vs => RE.drop1 v (RE.wipe r vs)
theorem setTgs_len : ∀ (ts : Tgs) {xs : List PyData} {ρ ρ' : Rho}, setTgs ts xs ρ = some ρ' → xs.length = lenTs ts
  | .nil, [], _, _, _ => rfl
  | .nil, _ :: _, _, _, e => by cases e
  | .cons t ts, [], _, _, e => by cases e
  | .cons t ts, x :: xs, ρ, ρ', e => by
    have e : (setTg t (.d x) ρ).bind (setTgs ts xs) = some ρ' := e
    cases e1 : setTg t (.d x) ρ with
    | none => rw [e1] at e; cases e
    | some ρ1 =>
      rw [e1] at e
      show xs.length + 1 = lenTs ts + 1
      rw [setTgs_len ts (show setTgs ts xs ρ1 = some ρ' from e)]
mutual
theorem gT_run {W : Wd} {S : Store} {H : Hp} (s : SR K C W S H) : ∀ (t : Tg) {a : Vl} {v : V} {ρ ρ' : Rho} {σ : L2.St} {Q : L2.St → Hp → Prop}, setTg t a ρ = some ρ' → RE K W ρ σ → RV K W a v →
    (∀ σ', RE K W ρ' σ' → (∀ vs, (∀ i ∈ slots t, i ∈ vs) → wipe σ' vs = wipe σ vs) → Q σ' H) → gT K t v σ H Q
  | .nm i, a, v, ρ, ρ', σ, Q, e, r, rv, k => by
    have e : (if i < ρ.length then some (ρ.set i (some a)) else none) = some ρ' := e
    by_cases hi : i < ρ.length
    · rw [if_pos hi] at e
      cases e
      exact k _ (RE.set i r rv) fun vs h => wipe_set (h i (by simp [slots]))
    · rw [if_neg hi] at e; cases e
  | .tp ts, a, v, ρ, ρ', σ, Q, e, r, rv, k => by
    cases a with
    | d y =>
      cases y with
      | tuple xs =>
        obtain ⟨p, vs, rfl, sq, rvs⟩ := tup_at s rv
        have e : setTgs ts xs ρ = some ρ' := e
        exact ⟨p, vs, rfl, sq, by rw [← len_map rvs]; exact setTgs_len ts e, gTs_run s ts e r rvs fun σ' r' w => k σ' r' w⟩
      | _ => cases e
    | _ => cases e
theorem gTs_run {W : Wd} {S : Store} {H : Hp} (s : SR K C W S H) : ∀ (ts : Tgs) {xs : List PyData} {vs : List V} {ρ ρ' : Rho} {σ : L2.St} {Q : L2.St → Hp → Prop}, setTgs ts xs ρ = some ρ' → RE K W ρ σ → RVs K W (xs.map .d) vs →
    (∀ σ', RE K W ρ' σ' → (∀ ws, (∀ i ∈ slotss ts, i ∈ ws) → wipe σ' ws = wipe σ ws) → Q σ' H) → gTs K ts vs σ H Q
  | .nil, xs, vs, ρ, ρ', σ, Q, e, r, rvs, k => by
    cases xs with
    | nil =>
      cases e
      cases rvs
      exact ⟨rfl, k _ r fun _ _ => rfl⟩
    | cons x xs => cases e
  | .cons t ts, xs, vs, ρ, ρ', σ, Q, e, r, rvs, k => by
    cases xs with
    | nil => cases e
    | cons x xs =>
      have e : (setTg t (.d x) ρ).bind (setTgs ts xs) = some ρ' := e
      cases e1 : setTg t (.d x) ρ with
      | none => rw [e1] at e; cases e
      | some ρ1 =>
        rw [e1] at e
        have e : setTgs ts xs ρ1 = some ρ' := e
        cases rvs with
        | @cons _ v _ vs h tl =>
          refine ⟨v, vs, rfl, gT_run s t e1 r h fun σ1 r1 w1 => gTs_run s ts e r1 tl fun σ2 r2 w2 => k σ2 r2 fun ws hw => ?_⟩
          rw [w2 ws fun i hi => hw i (by simp [slotss, hi]), w1 ws fun i hi => hw i (by simp [slotss, hi])]
end
end
/-! ### a list that is being made, which the world does not know -/
section
variable {K : PySem.W.Frag} {C : Ctx} {W W' : Wd} {S S' : Store} {H H' H1 : Hp} {D : Addr}
def Junk (W : Wd) (S : Store) (D : Addr) : Prop := W.z D = none ∧ ∀ n, live S n → W.f n ≠ D
theorem Junk.tr {o : HO} (j : Junk W S D) (t : Tr W S H W' S' H') (e : H D = some o) : Junk W' S' D ∧ H' D = some o := by
  refine ⟨⟨?_, fun n hl z => ?_⟩, t.keep D o e j.2⟩
  · cases q : W'.z D with
    | none => rfl
    | some u =>
      rcases t.fresh D (by rw [q]; intro z; cases z) with h | h | ⟨n, hl, h⟩
      · exact absurd j.1 h
      · rw [e] at h; cases h
      · exact absurd h (j.2 n hl)
  · by_cases hw : n < W.n
    · exact j.2 n (t.old n hl hw) ((t.le.f n hw).symm.trans z)
    · have := t.new n hl (by omega)
      rw [z, e] at this
      cases this
theorem SR.junk (s : SR K C W S H) (j : Junk W S D) (o : HO) : SR K C W S (upd H D o) :=
  ⟨s.len, fun b x e => by rw [upd_ne (fun z => by subst z; rw [j.1] at e; cases e)]; exact s.sub b x e, fun n x e hd => by
    obtain ⟨h1, ho, h2, h3⟩ := s.at_ n x e hd
    exact ⟨h1, ho, by rw [upd_ne (j.2 n ⟨x, e, hd⟩)]; exact h2, h3⟩, s.inj⟩
theorem Tr.junk {W0 : Wd} {S0 : Store} {H0 : Hp} (t : Tr W0 S0 H0 W S H) (hn : H0 D = none) (o : HO) : Tr W0 S0 H0 W S (upd H D o) :=
  ⟨t.le, fun a x e h => by rw [upd_ne (ne_of_none e hn)]; exact t.keep a x e h, fun a e => by
    by_cases h : a = D
    · subst h; exact hn
    · rw [upd_ne h] at e; exact t.there a e, t.fresh, t.old, t.new⟩
theorem junk_new (s : SR K C W S H) (hn : H D = none) : Junk W S D := ⟨s.sub.free hn, fun n ⟨x, e, hd⟩ z => by
  obtain ⟨_, ho, h2, _⟩ := s.at_ n x e hd
  rw [z, hn] at h2
  cases h2⟩
/-- the list that was made is the value -/
theorem newL_at {Ex : XD} {W0 : Wd} {S0 : Store} {H0 : Hp} {m : Bool} {xs : List Vl} {vs : List V} {Q : V → Hp → Prop} (t : Tr W0 S0 H0 W S H) (s : SR K C W S H) (hn : H0 D = none) (e : H D = some (.lst vs)) (j : Junk W S D) (r : RVs K W xs vs)
    (h : Run K C Ex (RV K) (newL m xs S) W0 S0 H0 Q) : Q (.ref D) H := by
  unfold newL at h
  by_cases hl : xs.length ≤ sizeLine
  · rw [if_pos hl] at h
    cases m with
    | true =>
      rw [if_pos rfl] at h
      have l : Le W ⟨W.z, fun i => if i = W.n then D else W.f i, W.n + 1⟩ := ⟨Same.refl _, Nat.le_succ _, fun i h => if_neg (Nat.ne_of_lt h)⟩
      have old : ∀ n, n < W.n → ((S ++ [Ob.lst xs])[n]? = S[n]?) := fun n h => List.getElem?_append_left (by rw [← s.len]; exact h)
      have liveOld : ∀ n, live (S ++ [Ob.lst xs]) n → n < W.n → live S n := fun n ⟨x, e, d⟩ h => ⟨x, by rw [← old n h]; exact e, d⟩
      have top : ∀ n, live (S ++ [Ob.lst xs]) n → ¬ n < W.n → n = W.n := fun n h hl => by
        have := h.lt
        rw [List.length_append, ← s.len] at this
        have h1 : n < W.n + 1 := this
        omega
      refine h ⟨W.z, fun i => if i = W.n then D else W.f i, W.n + 1⟩ _ _ ⟨t.le.trans l, t.keep, t.there, t.fresh, fun n hl hw => t.old n (liveOld n hl (Nat.lt_of_lt_of_le hw t.le.n)) hw, fun n hl hw => ?_⟩ ⟨by show W.n + 1 = _; rw [List.length_append, ← s.len]; rfl, s.sub, fun n x ex hd => ?_, fun a b ha hb eab => ?_⟩ ⟨by show S.length < W.n + 1; rw [s.len]; exact Nat.lt_succ_self _, by
        show _ = V.ref (if S.length = W.n then D else _)
        rw [if_pos s.len.symm]⟩
      · by_cases h1 : n < W.n
        · show H0 (if n = W.n then D else W.f n) = none
          rw [if_neg (Nat.ne_of_lt h1)]
          exact t.new n (liveOld n hl h1) hw
        · show H0 (if n = W.n then D else W.f n) = none
          rw [if_pos (top n hl h1)]
          exact hn
      · show W.z (if n = W.n then D else W.f n) = none ∧ ∃ ho, H (if n = W.n then D else W.f n) = some ho ∧ _
        by_cases h1 : n < W.n
        · rw [if_neg (Nat.ne_of_lt h1)]
          rw [old n h1] at ex
          obtain ⟨g1, ho, g2, g3⟩ := s.at_ n x ex hd
          exact ⟨g1, ho, g2, g3.mono l⟩
        · have en := top n ⟨x, ex, hd⟩ h1
          subst en
          rw [if_pos rfl]
          have e2 : x = .lst xs := by
            rw [s.len, List.getElem?_append_right (Nat.le_refl _), Nat.sub_self] at ex
            exact (Option.some.inj ex).symm
          subst e2
          exact ⟨j.1, _, e, vs, rfl, r.mono l⟩
      · have eab : (if a = W.n then D else W.f a) = (if b = W.n then D else W.f b) := eab
        by_cases h1 : a < W.n
        · by_cases h2 : b < W.n
          · rw [if_neg (Nat.ne_of_lt h1), if_neg (Nat.ne_of_lt h2)] at eab
            exact s.inj a b (liveOld a ha h1) (liveOld b hb h2) eab
          · rw [if_neg (Nat.ne_of_lt h1), if_pos (top b hb h2)] at eab
            exact absurd eab (j.2 a (liveOld a ha h1))
        · by_cases h2 : b < W.n
          · rw [if_pos (top a ha h1), if_neg (Nat.ne_of_lt h2)] at eab
            exact absurd eab.symm (j.2 b (liveOld b hb h2))
          · rw [top a ha h1, top b hb h2]
    | false =>
      rw [if_neg Bool.false_ne_true] at h
      cases ep : pds xs with
      | none => rw [ep] at h; exact h.elim
      | some ds =>
        rw [ep] at h
        have l : Le W ⟨upd W.z D (.lst vs), W.f, W.n⟩ := ⟨fun b x eb => by
          show upd W.z D _ b = _
          rw [upd_ne (ne_of_none eb j.1)]; exact eb, Nat.le_refl _, fun _ _ => rfl⟩
        rw [pds_eq ep] at r
        obtain ⟨r1, r2⟩ := rvs_dp (r.mono l)
        refine h ⟨upd W.z D (.lst vs), W.f, W.n⟩ _ _ ⟨t.le.trans l, t.keep, t.there, fun a ea => ?_, t.old, t.new⟩ ⟨s.len, fun b x eb => ?_, fun n x ex hd => ?_, s.inj⟩ ⟨.lst (by show upd W.z D _ D = _; exact upd_same) r1, by simpa [PyData.canLay0] using r2⟩
        · by_cases h : a = D
          · subst h; exact .inr (.inl hn)
          · exact t.fresh a (by rw [← upd_ne (H := W.z) (o := .lst vs) h]; exact ea)
        · have eb : upd W.z D (.lst vs) b = some x := eb
          by_cases h : b = D
          · subst h; rw [upd_same] at eb; cases eb; exact e
          · rw [upd_ne h] at eb; exact s.sub b x eb
        · obtain ⟨g1, ho, g2, g3⟩ := s.at_ n x ex hd
          exact ⟨by show upd W.z D _ (W.f n) = none; rw [upd_ne (j.2 n ⟨x, ex, hd⟩)]; exact g1, ho, g2, g3.mono l⟩
  · rw [if_neg hl] at h; exact h.elim
end
end DL

namespace DL
open PySem PySem.Spec PyProof.Rows L2
/-! ### comprehensions -/
abbrev exNo : L2.St → XD := fun _ _ _ _ _ _ => False
def dC (K : PySem.W.Frag) (C : Ctx) : Option (Rho → M Bool) → TT
  | none => tYes
  | some c => dB K C exNo c
theorem bnd_ok {α β : Type} {m : M α} {g : α → M β} {S : Store} {b : β} {S' : Store} (h : bnd m g S = .ok b S') : ∃ a S1, m S = .ok a S1 ∧ g a S1 = .ok b S' := by
  unfold bnd at h
  cases e : m S with
  | ok a S1 => rw [e] at h; exact ⟨a, S1, rfl, h⟩
  | ex c fs S1 => rw [e] at h; cases h
  | bad => rw [e] at h; cases h
theorem compGo_nil {s : Src} {f : Vl → M (Option Vl)} {acc : List Vl} : compGo s f [] acc = bnd (guard s) fun _ => pur acc := rfl
theorem compGo_cons {s : Src} {f : Vl → M (Option Vl)} {x : Vl} {r acc : List Vl} : compGo s f (x :: r) acc = bnd (guard s) fun _ => bnd (f x) fun o => match o with
    | none => compGo s f r acc
    | some y => if acc.length < sizeLine then compGo s f r (acc ++ [y]) else bad := rfl
theorem guard_ok {s : Src} {S S' : Store} {u : Unit} (h : guard s S = .ok u S') : s.ok S ∧ S' = S := by
  unfold guard at h
  split at h
  · cases h; exact ⟨by assumption, rfl⟩
  · cases h
theorem run_ok {α β : Type} {K : PySem.W.Frag} {C : Ctx} {Ex : XD} {RA : Wd → α → β → Prop} {r : Rs α} {W : Wd} {S : Store} {H : Hp} {Q : β → Hp → Prop} {a : α} {S' : Store} (e : r = .ok a S')
    (h : ∀ W' H' v, Tr W S H W' S' H' → SR K C W' S' H' → RA W' a v → Q v H') : Run K C Ex RA r W S H Q := by subst e; exact h
section
variable {X : Cx} {C : Ctx} {Ex : L2.St → XD}
theorem lc_run {own : List Nat} {t : Tg} {cnd : Option (Rho → M Bool)} {el : Rho → M Vl} {evi : Rho → M Src} {m : Bool} (ht : ∀ i ∈ slots t, i ∈ own) {σ : L2.St} {H : Hp} {Q : VK}
    (h : dT X.K C Ex (fun ρ => bnd (evi ρ) fun s => bnd (noEx (compGo s (compF own t cnd el ρ) s.xs [])) (newL m)) σ H Q) : tLc (dI X.K C Ex evi) (gT X.K t) (dC X.K C cnd) (dT X.K C exNo el) own σ H Q := by
  obtain ⟨W, S, ρ, sr, r, h⟩ := h
  refine ⟨W, S, ρ, sr, r, Run.bnd h fun s S1 W1 H1 J t1 s1 jok h => ?_⟩
  have r1 := r.mono t1.le
  intro D hD
  cases eg : compGo s (compF own t cnd el ρ) s.xs [] S1 with
  | ex c fs S2 => simp only [bnd, noEx, eg] at h; exact h.elim
  | bad => simp only [bnd, noEx, eg] at h; exact h.elim
  | ok accF SF =>
  have h : Run X.K C (Ex σ) (RV X.K) (newL m accF SF) W1 S1 H1 Q := by
    have : bnd (noEx (compGo s (compF own t cnd el ρ) s.xs [])) (newL m) S1 = newL m accF SF := by simp only [bnd, noEx, eg, Rs.bind]
    rw [← this]; exact h
  refine ⟨fun i n H' => n = s.xs.length - i ∧ i ≤ s.xs.length ∧ ∃ W' S' acc vs, Tr W1 S1 H1 W' S' H' ∧ SR X.K C W' S' H' ∧ H' D = some (.lst vs) ∧ RVs X.K W' acc vs ∧ Junk W' S' D ∧ compGo s (compF own t cnd el ρ) (s.xs.drop i) acc S' = .ok accF SF,
    ⟨s.xs.length, by simp, Nat.zero_le _, W1, S1, [], [], (Tr.refl s1).junk hD _, s1.junk (junk_new s1 hD) _, upd_same, .nil, junk_new s1 hD, by rw [List.drop_zero]; exact eg⟩, fun i n H' hW => ?_⟩
  obtain ⟨rfl, hi, W', S', acc, vs, tr, s', eD, ra, jk, ego⟩ := hW
  by_cases hlt : i < s.xs.length
  · right
    have hx : s.xs[i]? = some s.xs[i] := List.getElem?_eq_getElem hlt
    rw [List.drop_eq_getElem_cons hlt] at ego
    rw [compGo_cons] at ego
    obtain ⟨_, S2, eg1, eg2⟩ := bnd_ok ego
    clear ego
    obtain ⟨hok, rfl⟩ := guard_ok eg1
    obtain ⟨o, S3, ef, ego⟩ := bnd_ok eg2
    clear eg2
    obtain ⟨jgo, jy⟩ := jok.go i W' S2 H' tr.le s' hok _ hx
    refine ⟨jgo, fun H'' => ∃ W'' S'' acc' vs', Tr W1 S1 H1 W'' S'' H'' ∧ SR X.K C W'' S'' H'' ∧ H'' D = some (.lst vs') ∧ RVs X.K W'' acc' vs' ∧ Junk W'' S'' D ∧ compGo s (compF own t cnd el ρ) (s.xs.drop (i + 1)) acc' S'' = .ok accF SF,
      fun H'' hN => ⟨s.xs.length - (i + 1), by omega, rfl, hlt, hN⟩, fun x H'' y => ?_⟩
    obtain ⟨W2, t2, s2, rx⟩ := jy x H'' y
    obtain ⟨jk2, eD2⟩ := jk.tr t2 eD
    have rw2 : RE X.K W2 (wipeR ρ own) (wipe σ own) := ((r1.mono tr.le).mono t2.le).wipe own
    unfold compF at ef
    cases est : setTg t s.xs[i] (wipeR ρ own) with
    | none => simp only [est] at ef; cases ef
    | some ρ1 =>
      simp only [est] at ef
      refine gT_run s2 t est rw2 rx fun σ2 r2 hw => ⟨by rw [hw own ht, wipe_wipe], ?_⟩
      -- the element
      have elt : ∀ {W3 : Wd} {S3a S3 : Store} {H3 : Hp} {o' : Option Vl}, Tr W1 S1 H1 W3 S3a H3 → SR X.K C W3 S3a H3 → RE X.K W3 ρ1 σ2 → H3 D = some (.lst vs) → RVs X.K W3 acc vs → Junk W3 S3a D → bnd (el ρ1) (fun y => pur (some y)) S3a = .ok o' S3 →
          (match o' with
            | none => compGo s (compF own t cnd el ρ) (s.xs.drop (i + 1)) acc
            | some y => if acc.length < sizeLine then compGo s (compF own t cnd el ρ) (s.xs.drop (i + 1)) (acc ++ [y]) else bad) S3 = .ok accF SF →
          dT X.K C exNo el σ2 H3 fun y H4 => ∃ acc0, H4 D = some (.lst acc0) ∧ acc0.length < sizeLine ∧ ∃ W'' S'' acc' vs', Tr W1 S1 H1 W'' S'' (upd H4 D (.lst (acc0 ++ [y]))) ∧ SR X.K C W'' S'' (upd H4 D (.lst (acc0 ++ [y]))) ∧ upd H4 D (.lst (acc0 ++ [y])) D = some (.lst vs') ∧ RVs X.K W'' acc' vs' ∧ Junk W'' S'' D ∧ compGo s (compF own t cnd el ρ) (s.xs.drop (i + 1)) acc' S'' = .ok accF SF := by
        intro W3 S3a S3 H3 o' tr3 s3 r3 eD3 ra3 jk3 ee ego
        obtain ⟨y, S4, ey, e5⟩ := bnd_ok ee
        cases e5
        refine ⟨W3, S3a, ρ1, s3, r3, run_ok ey fun W4 H4 v t4 s4 rv => ?_⟩
        obtain ⟨jk4, eD4⟩ := jk3.tr t4 eD3
        have ego : (if acc.length < sizeLine then compGo s (compF own t cnd el ρ) (s.xs.drop (i + 1)) (acc ++ [y]) else bad) S3 = .ok accF SF := ego
        by_cases hz : acc.length < sizeLine
        · rw [if_pos hz] at ego
          exact ⟨vs, eD4, by rw [← rvs_len ra3]; exact hz, W4, S3, acc ++ [y], vs ++ [v], (tr3.trans t4).junk hD _, s4.junk jk4 _, upd_same, RVs.append (ra3.mono t4.le) (rvs_one rv), jk4, ego⟩
        · rw [if_neg hz] at ego; cases ego
      cases cnd with
      | none =>
        dsimp only [dC, tYes]
        rw [if_pos rfl]
        exact elt (tr.trans t2) s2 r2 eD2 (ra.mono t2.le) jk2 ef ego
      | some c =>
        obtain ⟨k, S4, ek, ef⟩ := bnd_ok ef
        refine ⟨W2, S2, ρ1, s2, r2, run_ok ek fun W4 H4 v t4 s4 rv => ?_⟩
        cases rv
        obtain ⟨jk4, eD4⟩ := jk2.tr t4 eD2
        cases k with
        | true =>
          rw [if_pos rfl] at ef ⊢
          exact elt ((tr.trans t2).trans t4) s4 (r2.mono t4.le) eD4 ((ra.mono t2.le).mono t4.le) jk4 ef ego
        | false =>
          rw [if_neg Bool.false_ne_true] at ef ⊢
          cases ef
          exact ⟨W4, S3, acc, vs, (tr.trans t2).trans t4, s4, eD4, (ra.mono t2.le).mono t4.le, jk4, ego⟩
  · left
    have ei : i = s.xs.length := by omega
    subst ei
    rw [List.drop_length, compGo_nil] at ego
    obtain ⟨_, S2, eg1, eg2⟩ := bnd_ok ego
    clear ego
    obtain ⟨hok, rfl⟩ := guard_ok eg1
    cases eg2
    exact ⟨jok.stop W' _ H' tr.le s' hok, newL_at tr s' hD eD jk ra h⟩
end
end DL

namespace DL
open PySem PySem.Spec PyProof.Rows L2
/-! ### a promise kept where no repr is under way -/
structure FnG (P : Program) (w : World) (K : PySem.W.Frag) (mg : Str → Option Value) (base : Heap) (k : Nat) (f : Addr) (fd : FuncData) (ps : List Str) (sp : Sp) : Prop where
  len : ∀ vs H Q E, sp vs H Q E → vs.length = ps.length
  run : ∀ (B : Around) (ou : List Env) (t : Shared) (H : Hp) (gs : Args) (us : List Value) (vs : List V) (Q : VK) (E : XK), Room k B → B.guards = some [] → Env0 P w K mg base B ou t H → BindsTo t fd gs (ps.zip us) → Vals vs us → sp vs H Q E →
    codeAny (model P w) B (.call (.ref f) gs) (CR (L2.CX P w) ou P w H t Q E) t
section
variable {P : Program} {w : World} {K : PySem.W.Frag} {mg : Str → Option Value} {base : Heap}
theorem fnG_of {x qual : Str} {st : Stmt} {f : Addr} {fd : FuncData} {N ps : List Str} {k : Nat} {sp : Sp} (F : Fun K x qual st f fd) (S : FnScope N ps (defScope st)) (len : ∀ vs H Q E, sp vs H Q E → vs.length = ps.length)
    (hbody : ∀ (cdv : Value) (B : Around) (ou : List Env) (t : Shared) (H : Hp) (vs : List V) (Q : VK) (E : XK), Room k (B.deeper (envOfC qual (defScope st) t.heap.objs.size f cdv)) → (B.deeper (envOfC qual (defScope st) t.heap.objs.size f cdv)).guards = some [] → sp vs H Q E →
      ∃ r, PSs (cxOf (L2.CX P w) P w K mg base N qual (defScope st) f cdv B ou t H E) (defBody st) r ∧ r { nx := fun _ H' => Q .non H', rt := Q } (L2.start N vs) H) : FnG P w K mg base (k + 1) f fd ps sp := by
  obtain ⟨oc, od, kV, doc, pm, an, cdv, ct, osl, rfl, lk, hcd⟩ := F.ex
  refine ⟨len, fun B ou t H gs us vs Q E room gd env bi rel hsp => ?_⟩
  have kin : K.In t.heap := env.mod.kin.keeps fun b o e => (env.bs b o e).1
  have nol : t.heap.NoLimit := env.mod.nolimit.keeps fun b o e => (env.bs b o e).1
  refine codeAny_call_function room.depth (kin _ _ lk) rfl S.co S.gen rfl (PySem.W.codeRec_of kin hcd) (bi _ _ _ _ ?_)
  refine wpAny_newFunctionEnv_cells S.kind (fun y hy => ?_) fun env' he t1 icall => ?_
  · rcases S.par y.1 (List.of_mem_zip (show (y.1, y.2) ∈ ps.zip us from hy)).1 with q | q
    · exact Or.inl q
    · exact Or.inr ⟨q, PySem.W.cellsFrom_some _ _ _ (Or.inl q)⟩
  subst he
  obtain ⟨r, pss, rq⟩ := hbody cdv B ou t H vs Q E (room.deeper _) gd hsp
  have inv := inv_start (CX := L2.CX P w) (E := E) S room.hd env (len _ _ _ _ hsp) rel icall
  refine ⟨nol.keeps icall.toInCall.keep, codeAny_func (wpAny_mono (pss.run [] t1 _ H _ inv rq) (fun fl t2 end_ => ?_) fun _ _ z => z)⟩
  cases fl with
  | next => obtain ⟨σ2, H2, J, q⟩ := end_; exact ⟨V.non, H2, J.os, J.bare, J.base, J.hok, rfl, q⟩
  | ret u => obtain ⟨v, σ2, H2, J, rv, q⟩ := end_; exact ⟨v, H2, J.os, J.bare, J.base, J.hok, rv, q⟩
  | brk => obtain ⟨_, _, _, z⟩ := end_; exact z.elim
  | cont => obtain ⟨_, _, _, z⟩ := end_; exact z.elim
end
section
variable {X : Cx} {k : Nat} {f : Addr} {fd : FuncData} {ps : List Str} {sp : Sp} {E : L2.St → XK}
theorem pe_callG {x : Str} {p pos : Pos} {e : Expr} {es : List Expr} {t : TA} (F : FnG X.prog X.w X.K X.mg X.base k f fd ps sp) (hr : Room k X.A) (gd : X.A.guards = some []) (hg : Gl X x) (hm : X.mg x = some (.ref f)) (hk : PySem.W.keepIn X.K (.ref f) = true) (hb : Binds X.K fd ps []) (hx : ∀ σ, PassesAt (L2.CX X.prog X.w) X σ (E σ))
    (ha : PA X (e :: es) t) (hdb : (x == ("__debug__" : Str)) = false) (he : starEach (e :: es) X.env = (false, eval e X.env) :: starEach es X.env) (hpl : (backTo pos (starEach es X.env)).any (·.1) = false) :
    PE X (.Call (.Name x p) (e :: es) [] pos) (fun σ H Q => t σ H fun vs H1 => sp vs H1 Q (E σ)) := by
  refine ⟨fun pn s σ H Q I h => wpAny_Call_Name_kw (ld_glob I hg hm ?_ hdb)⟩
  refine PySem.W.callWith_K (h₀ := X.base) I.ok.mod.kin hk (thn (ha.run pos pn s σ H _ I h) fun us s1 ⟨vs, H1, J, r, q⟩ => ⟨J.kIn, ?_⟩) he hpl
  have hl : us.length = ps.length := by rw [← r.length]; exact F.len _ _ _ _ q
  have bi : BindsTo s1 fd ⟨us, []⟩ (ps.zip us) := by
    have := hb s1 us J.kIn (by rw [List.append_nil]; exact hl)
    rwa [List.append_nil] at this
  refine wpAny_call (codeAny_mono (F.run X.A X.stack s1 H1 ⟨us, []⟩ us vs Q (E σ) hr gd J.env0 bi r q) fun res s' hq => ?_)
  match res, hq with
  | .error e, hq => exact hx σ pn H1 s1 e s' J hq
  | .ok (.ret u), hq => exact J.after hq
  | .ok .next, hq => exact hq.elim
  | .ok .brk, hq => exact hq.elim
  | .ok .cont, hq => exact hq.elim
end
/-! ### the head -/
section
variable {P : Program} {w : World} {K : PySem.W.Frag} {mg mb : Str → Option Value} {a : Addr} {vs : List Value} {ns : List Int} {t : Shared}
theorem head_env {H : Hp} (kin : K.In t.heap) (hns : t.heap.Ns mainGlobals mg) (hb : t.heap.Ns builtinsNs mb) (hbb : ∀ x : Str, x ≠ "__name__" → mb x = bootBuiltins x) (hlim : t.heap.NoLimit) (hg : t.gens = #[]) (hok : HOk P w H t.heap)
    (hH : ∀ b, H b ≠ none → K.lookup b = none ∧ ∃ o, t.heap.get? b = some o ∧ ∀ es ep, o.data ≠ .dict es ep) : Env0 P w K mg (hidT t.heap H) callerA [] t H := by
  have ns2 : ∀ {b : Addr} {m : Str → Option Value}, t.heap.Ns b m → (hidT t.heap H).Ns b m := fun {b m} ⟨o, es, ep, e, d, r⟩ => by
    refine ⟨o, es, ep, hidT_get e ?_, d, r⟩
    refine Classical.byContradiction fun z => ?_
    obtain ⟨_, o2, e2, nd⟩ := hH b z
    rw [e] at e2
    cases e2
    exact nd es ep d
  have kin2 : K.In (hidT t.heap H) := fun b o e => hidT_get (kin b o e) (Classical.byContradiction fun z => by rw [(hH b z).1] at e; cases e)
  obtain ⟨mc, l1, l2⟩ := hlim
  exact ⟨rfl, ⟨kin2, ns2 hns, ⟨mb, ns2 hb, hbb⟩, mc, ns2 l1, l2⟩, fun b o e => of_hidT e, Nat.le_of_eq (hidT_size _ _), trivial, fun b hb => (by cases hb), hok, .of_eq hg⟩
/-- the law called at the heap behind the top -/
theorem head_call {k : Nat} {fa : Addr} {fd : FuncData} {x : Str} {sp : Sp} (kin : K.In t.heap) (hns : t.heap.Ns mainGlobals mg) (hb : t.heap.Ns builtinsNs mb) (hbb : ∀ x : Str, x ≠ "__name__" → mb x = bootBuiltins x) (hlim : t.heap.NoLimit) (hg : t.gens = #[])
    (ha : t.heap.get? a = some { cls := .type "list", data := .seq vs.toArray }) (hi : IntsAre vs ns) (hl : ns.length ≤ sizeLine) (hr : Room k callerA) (F : ∀ base : Heap, FnG P w K mg base k fa fd [x] sp) (hbind : ∀ (s : Shared) (u : Value), BindsTo s fd ⟨[u], []⟩ [(x, u)])
    (hsp : ∀ H : Hp, SqL K H a (ns.map V.int) → sp [.ref a] H (fun v _ => v = .bl true) fun _ _ _ => False) :
    codeAny (model P w) callerA (.call (.ref fa) ⟨[.ref a], []⟩) (fun r s' => r = .ok (.ret (.bool true)) ∧ OldK t.heap s'.heap ∧ s'.os = t.os ∧ AllBare s'.gens) t := by
  have go : ∀ H : Hp, SqL K H a (ns.map V.int) → HOk P w H t.heap → (∀ b, H b ≠ none → K.lookup b = none ∧ b = a ∧ ∃ o xs, H b = some (.frz o (.lst xs))) → codeAny (model P w) callerA (.call (.ref fa) ⟨[.ref a], []⟩) (fun r s' => r = .ok (.ret (.bool true)) ∧ OldK t.heap s'.heap ∧ s'.os = t.os ∧ AllBare s'.gens) t := by
    intro H sq hok only
    have env := head_env (mb := mb) kin hns hb hbb hlim hg hok fun b z => ⟨(only b z).1, { cls := .type "list", data := .seq vs.toArray }, (by rw [(only b z).2.1]; exact ha), fun es ep d => by cases d⟩
    refine codeAny_mono ((F _).run callerA [] t H ⟨[.ref a], []⟩ [.ref a] [.ref a] _ _ hr rfl env (hbind t (.ref a)) (.cons rfl .nil) (hsp H sq)) fun r s' h => ?_
    match r, h with
    | .error e, h =>
      obtain ⟨_, _, _, _, _, _, _, _, _, _, _, _, z⟩ := h
      exact z.elim
    | .ok .next, h => exact h.elim
    | .ok .brk, h => exact h.elim
    | .ok .cont, h => exact h.elim
    | .ok (.ret u), h =>
      obtain ⟨v, H2, os, bare, un, hok2, rv, q⟩ := h
      have q : v = .bl true := q
      subst q
      cases (show u = Value.bool true from rv)
      refine ⟨rfl, OldK.of_keep fun b o e => ?_, os, bare⟩
      cases hb : H b with
      | none => exact un.keep b o e hb (fun z => by cases z) (fun z => by cases z)
      | some z =>
        obtain ⟨_, _, ob, xs, e1⟩ := only b (by rw [hb]; exact fun z => by cases z)
        have e2 := (hok b _ e1).1
        rw [e] at e2
        cases e2
        exact (hok2 b _ (un.frzs b _ _ e1)).1
  have rv := vals_ints hi
  by_cases hK : K.lookup a = none
  · let z : HO := .frz { cls := .type "list", data := .seq vs.toArray } (.lst (ns.map V.int))
    have e1 : ∀ b u, (if b = a then some z else none) = some u → b = a ∧ u = z := fun b u h => by
      by_cases hb : b = a
      · rw [if_pos hb] at h; cases h; exact ⟨hb, rfl⟩
      · rw [if_neg hb] at h; cases h
    refine go (fun b => if b = a then some z else none) (.inl (.inr ⟨_, if_pos rfl⟩)) (fun b u h => ?_) fun b h => ?_
    · obtain ⟨rfl, rfl⟩ := e1 b u h
      exact ⟨ha, by rw [List.length_map]; exact hl, vs, _, rv, ha⟩
    · by_cases hb : b = a
      · exact ⟨hb ▸ hK, hb, _, _, if_pos hb⟩
      · exact absurd (if_neg hb) h
  · cases hk : K.lookup a with
    | none => exact absurd hk hK
    | some o =>
      have e := kin a o hk
      rw [ha] at e
      cases e
      refine go (fun _ => none) (.inr ⟨_, vs.toArray, _, hk, rfl, rfl, rfl, by rw [List.size_toArray, hi.length]; exact hl, by simpa using rv⟩) (fun b u h => by cases h) fun b h => absurd rfl h
end
end DL

namespace DL
open PySem PySem.Spec PyProof.Rows L2
/-! ### calls of the text's own defs -/
def XR (K : PySem.W.Frag) (C : Ctx) (z : Hp) (c : Str) (fs : List (Str × PyData)) (H : Hp) (cls : Value) (d : Option Addr) : Prop :=
  ∃ a, C c = some a ∧ cls = .ref a ∧ (fs ≠ [] → ∃ dx vs, d = some dx ∧ H dx = some (.xd ((fs.map (·.1)).zip vs)) ∧ DzAll K z vs (fs.map (·.2)))
def exF (K : PySem.W.Frag) (C : Ctx) (E : XK) : XD := fun W c fs _ H => ∀ cls d, XR K C W.z c fs H cls d → E cls d H
abbrev exW (K : PySem.W.Frag) (C : Ctx) (Wx : WX) : L2.St → XD := fun σ => exF K C (WE Wx σ)
def spF (K : PySem.W.Frag) (C : Ctx) (g : List Vl → M Vl) : Sp := fun vs H Q E => ∃ W S ds, SR K C W S H ∧ RVs K W ds vs ∧ Run K C (exF K C E) (RV K) (g ds S) W S H Q
structure Cal (X : Cx) (C : Ctx) (f : Str) (g : List Vl → M Vl) : Prop where
  ex : ∃ addr fd ps k, FnG X.prog X.w X.K X.mg X.base k addr fd ps (spF X.K C g) ∧ Room k X.A ∧ X.A.guards = some [] ∧ X.mg f = some (.ref addr) ∧ PySem.W.keepIn X.K (.ref addr) = true ∧ Binds X.K fd ps []
section
variable {K : PySem.W.Frag} {C : Ctx}
/-- a call with data alone, run with a store of its own -/
theorem pure_run {E : XK} {P : Pg} {f : Str} {as : List Vl} {vs : List V} {W : Wd} {S : Store} {H : Hp} {Q : V → Hp → Prop} (s : SR K C W S H) (r : RVs K W as vs) (h : Run K C (exF K C E) (RV K) (callP P true f as S) W S H Q) : spF K C (P.fn f) vs H Q E := by
  unfold callP at h
  rw [if_pos rfl] at h
  cases ep : pds as with
  | none => simp only [ep] at h; exact h.elim
  | some ds =>
    simp only [ep] at h
    rw [pds_eq ep] at r
    have lift : ∀ {W1 : Wd} {S1 : Store} {H1 : Hp}, Tr ⟨W.z, fun _ => 0, 0⟩ [] H W1 S1 H1 → SR K C W1 S1 H1 → Tr W S H ⟨W1.z, W.f, W.n⟩ S H1 ∧ SR K C ⟨W1.z, W.f, W.n⟩ S H1 := fun {W1 S1 H1} t s1 => by
      have nolive : ∀ n, ¬ live ([] : Store) n := fun n ⟨_, e, _⟩ => by simp at e
      have keep : ∀ a o, H a = some o → H1 a = some o := fun a o e => t.keep a o e fun n hl => absurd hl (nolive n)
      have fr : ∀ a, W1.z a ≠ none → W.z a ≠ none ∨ H a = none := fun a e => by
        rcases t.fresh a e with h | h | ⟨n, hl, _⟩
        · exact .inl h
        · exact .inr h
        · exact absurd hl (nolive n)
      have l : Le W ⟨W1.z, W.f, W.n⟩ := ⟨t.le.z, Nat.le_refl _, fun _ _ => rfl⟩
      refine ⟨⟨l, fun a o e _ => keep a o e, t.there, fun a e => (fr a e).elim .inl fun h => .inr (.inl h), fun _ h _ => h, fun n h hl => absurd h.lt (by rw [← s.len]; exact Nat.not_lt.mpr hl)⟩, ⟨s.len, s1.sub, fun n x e hd => ?_, s.inj⟩⟩
      obtain ⟨g1, ho, g2, g3⟩ := s.at_ n x e hd
      refine ⟨?_, ho, keep _ _ g2, g3.mono l⟩
      cases q : W1.z (W.f n) with
      | none => rfl
      | some u =>
        rcases fr (W.f n) (by rw [q]; intro z; cases z) with h | h
        · exact absurd g1 h
        · rw [g2] at h; cases h
    refine ⟨⟨W.z, fun _ => 0, 0⟩, [], ds.map .d, ⟨rfl, s.sub, fun n x e => by simp at e, fun n m ⟨_, e, _⟩ => by simp at e⟩, dp_rvs (rvs_dp r).1 (rvs_dp r).2, ?_⟩
    cases er : P.fn f (ds.map .d) [] with
    | ok a S1 =>
      rw [er] at h
      cases a with
      | d x =>
        intro W1 H1 v t1 s1 rv
        obtain ⟨t, s'⟩ := lift t1 s1
        exact h _ _ v t s' rv
      | _ => exact h.elim
    | ex c fs S1 =>
      rw [er] at h
      intro W1 H1 t1 s1
      obtain ⟨t, s'⟩ := lift t1 s1
      exact h ⟨W1.z, W.f, W.n⟩ H1 t s'
    | bad => rw [er] at h; exact h.elim
theorem call_run {E : XK} {P : Pg} {p : Bool} {f : Str} {as : List Vl} {vs : List V} {W : Wd} {S : Store} {H : Hp} {Q : V → Hp → Prop} (s : SR K C W S H) (r : RVs K W as vs) (h : Run K C (exF K C E) (RV K) (callP P p f as S) W S H Q) : spF K C (P.fn f) vs H Q E := by
  cases p with
  | true => exact pure_run s r h
  | false => exact ⟨W, S, as, s, r, h⟩
end
section
variable {X : Cx} {C : Ctx} {Wx : WX}
theorem d_call {P : Pg} {p : Bool} {f : Str} {pc pos : Pos} {e : Expr} {es : List Expr} {evs : Rho → M (List Vl)} (tk : Takes X Wx) (c : Cal X C f (P.fn f)) (hg : Gl X f) (h : PAd X C (exW X.K C Wx) (e :: es) evs) (hdb : (f == ("__debug__" : Str)) = false)
    (he : starEach (e :: es) X.env = (false, eval e X.env) :: starEach es X.env) (hpl : (backTo pos (starEach es X.env)).any (·.1) = false) : PEd X C (exW X.K C Wx) (.Call (.Name f pc) (e :: es) [] pos) (fun ρ => bnd (evs ρ) (callP P p f)) := by
  obtain ⟨addr, fd, ps, k, F, hr, gd, hm, hk, hb⟩ := c.ex
  refine PE.weak (pe_callG (E := WE Wx) F hr gd hg hm hk hb (passAt tk) h hdb he hpl) fun σ H Q ⟨W, S, ρ, s, r, q⟩ => ?_
  exact dA.one s r q fun xs S1 W1 H1 vs l1 s1 r1 rxs q => call_run s1 rxs q
theorem d_bad {x : Expr} {ev : Rho → M Vl} {Ex : L2.St → XD} (h : ∀ ρ S a S', ev ρ S ≠ .ok a S') (h2 : ∀ ρ S c fs S', ev ρ S ≠ .ex c fs S') : PEd X C Ex x ev := ⟨fun pins s σ H Q I ⟨W, S, ρ, sr, r, q⟩ => by
  cases e : ev ρ S with
  | ok a S' => exact absurd e (h ρ S a S')
  | ex c fs S' => exact absurd e (h2 ρ S c fs S')
  | bad => rw [e] at q; exact q.elim⟩
variable {Ex : L2.St → XD}
/-! built-in methods -/
def mtSlot (m : Mt) : Prop := PlainAttrs m.ty ∧ Slot m.ty m.name m.id ∧ typeOf (.builtin m.id) = pure (.type "method_descriptor")
theorem mt_slot (m : Mt) : mtSlot m := by
  cases m with
  | append => exact ⟨PySem.F.plainAttrs_list, PySem.F.slot_list_append, PySem.F.type_list_append⟩
  | extend => exact ⟨PySem.F.plainAttrs_list, PySem.F.slot_list_extend, PySem.F.type_list_extend⟩
  | pop => exact ⟨PySem.F.plainAttrs_list, PySem.F.slot_list_pop, PySem.F.type_list_pop⟩
  | popAt => exact ⟨PySem.F.plainAttrs_list, PySem.F.slot_list_pop, PySem.F.type_list_pop⟩
  | reverse => exact ⟨PySem.F.plainAttrs_list, PySem.F.slot_list_reverse, PySem.F.type_list_reverse⟩
  | clear => exact ⟨PySem.F.plainAttrs_list, PySem.F.slot_list_clear, PySem.F.type_list_clear⟩
  | insert => exact ⟨PySem.F.plainAttrs_list, PySem.F.slot_list_insert, PySem.F.type_list_insert⟩
  | join => exact ⟨PySem.F.plainAttrs_str, PySem.F.slot_str_join, PySem.F.type_str_join⟩
  | x m => cases m with
    | split => exact ⟨PySem.F.plainAttrs_str, PySem.F.slot_str_split, PySem.F.type_str_split⟩
    | starts => exact ⟨PySem.F.plainAttrs_str, PySem.F.slot_str_startswith, PySem.F.type_str_startswith⟩
    | indexL => exact ⟨PySem.F.plainAttrs_list, PySem.F.slot_list_index, PySem.F.type_list_index⟩
    | indexT => exact ⟨PySem.F.plainAttrs_tuple, PySem.F.slot_tuple_index, PySem.F.type_tuple_index⟩
    | count => exact ⟨PySem.F.plainAttrs_list, PySem.F.slot_list_count, PySem.F.type_list_count⟩
    | get2 => exact ⟨PySem.F.plainAttrs_dict, PySem.F.slot_dict_get, PySem.F.type_dict_get⟩
    | setdef => exact ⟨PySem.F.plainAttrs_dict, PySem.F.slot_dict_setdefault, PySem.F.type_dict_setdefault⟩
def tMt0 (X : Cx) (T : String) (rr : V → List V → Hp → VK → Prop) (tr : TE) : TE := fun σ H Q => tr σ H fun x H1 => Kin X T x H1 ∧ rr x [] H1 Q
def tMt1 (X : Cx) (T : String) (rr : V → List V → Hp → VK → Prop) (tr : TE) (ta : TA) : TE := fun σ H Q => tr σ H fun x H1 => Kin X T x H1 ∧ ta σ H1 fun xs H2 => rr x xs H2 Q
theorem p_mt0 {T id : String} {nm : Str} {o : Expr} {tr : TE} {ap cp : Pos} {rr : V → List V → Hp → VK → Prop} (p1 : PlainAttrs T) (p2 : Slot T nm id) (p3 : typeOf (.builtin id) = pure (.type "method_descriptor")) (hm : MtR X id rr) (ho : PE X o tr)
    (hb : attributeBase o nm X.env (eval o X.env) = eval o X.env) (hl : (ap.endLine == cp.line) = true) : PE X (.Call (.Attribute o nm ap) [] [] cp) (tMt0 X T rr tr) := by
  constructor
  intro pins s σ H Q I h
  refine wpAny_Call_method0_late hb hl (thn (ho.run pins s σ H _ I h) ?_)
  rintro v s1 ⟨x, H1, J, rx, ty, q⟩
  have z := ty pins σ s1 v J rx
  exact ⟨T, id, p1, p2, p3, z.1, z.2, Calls.callWith_builtin rfl (PySem.evalArgs_none (hm pins s1 σ H1 x [] v [] Q J rx .nil q))⟩
theorem p_mt1 {T id : String} {nm : Str} {o e : Expr} {es : List Expr} {tr : TE} {ta : TA} {ap cp : Pos} {rr : V → List V → Hp → VK → Prop} (p1 : PlainAttrs T) (p2 : Slot T nm id) (p3 : typeOf (.builtin id) = pure (.type "method_descriptor")) (hm : MtR X id rr) (ho : PE X o tr) (ha : PA X (e :: es) ta)
    (hb : attributeBase o nm X.env (eval o X.env) = eval o X.env)
    (hf : ((backTo cp (starEach (e :: es) X.env)).all (fun x => !x.1) && (backToKw cp (keywordEach [] X.env)).all (fun x => x.1.isSome) && decide ((e :: es).length + ([] : List Keyword).length + (if ([] : List Keyword).isEmpty then 0 else 1) < 30)) = true)
    (hl : (ap.endLine == cp.line) = true) (he : starEach (e :: es) X.env = (false, eval e X.env) :: starEach es X.env) (hp : (backTo cp (starEach es X.env)).any (·.1) = false) :
    PE X (.Call (.Attribute o nm ap) (e :: es) [] cp) (tMt1 X T rr tr ta) := by
  constructor
  intro pins s σ H Q I h
  refine wpAny_Call_method_late hb hf hl rfl (thn (ho.run pins s σ H _ I h) ?_)
  rintro v s1 ⟨x, H1, J, rx, ty, q⟩
  have z := ty pins σ s1 v J rx
  refine ⟨T, id, p1, p2, p3, z.1, z.2, ?_⟩
  have hA := ha.run cp pins s1 σ H1 _ J q
  rw [he] at hA ⊢
  refine Calls.callWith_builtin ?_ (Calls.evalArgs_plain (thn hA ?_))
  · show (false || (backTo cp (starEach es X.env)).any (·.1)) = false
    rw [hp]; rfl
  · rintro us s2 ⟨vs, H2, J2, r2, q2⟩
    exact hm pins s2 σ H2 x vs v us Q J2 rx r2 q2
theorem d_mt {m : Mt} (hw : C.w = X.w) (hc : X.calm = true) (hu : X.A.units + 66 < cLine) {o e : Expr} {es : List Expr} {nm : Str} {apos cpos : Pos} {ev : Rho → M Vl} {evs : Rho → M (List Vl)} (hn : nm = m.name) (ho : PEd X C Ex o ev) (ha : PAd X C Ex (e :: es) evs)
    (hbase : attributeBase o nm X.env (eval o X.env) = eval o X.env)
    (hfew : ((backTo cpos (starEach (e :: es) X.env)).all (fun x => !x.1) && (backToKw cpos (keywordEach [] X.env)).all (fun x => x.1.isSome) && decide ((e :: es).length + ([] : List Keyword).length + (if ([] : List Keyword).isEmpty then 0 else 1) < 30)) = true)
    (hline : (apos.endLine == cpos.line) = true) (hs : starEach (e :: es) X.env = (false, eval e X.env) :: starEach es X.env) (hpl : (backTo cpos (starEach es X.env)).any (·.1) = false) :
    PEd X C Ex (.Call (.Attribute o nm apos) (e :: es) [] cpos) (fun ρ => bnd (ev ρ) fun x => fun S => if isTy S m.ty x = true then bnd (evs ρ) (mtV m x) S else .bad) := by
  subst hn
  obtain ⟨h1, h2, h3⟩ := mt_slot m
  refine ⟨fun pins s σ H Q I q => ?_⟩
  refine (p_mt1 h1 h2 h3 (mtAll (C := C) (Ex := Ex σ) hw hc hu m) ho ha hbase hfew hline hs hpl).run pins s σ H Q I ?_
  obtain ⟨W, S, ρ, sr, r, q⟩ := q
  refine dT.one sr r q fun x S1 W1 H1 v l1 s1 r1 rx q => ?_
  by_cases ht : isTy S1 m.ty x = true
  · simp only [if_pos ht] at q
    refine ⟨isTy_at hw s1 rx ht, dA.one s1 r1 q fun xs S2 W2 H2 vs l2 s2 r2 rxs q => ?_⟩
    exact ⟨W2, S2, x, xs, s2, rx.mono l2, rxs, q⟩
  · simp only [if_neg ht] at q; exact q.elim
theorem d_mt0 {m : Mt} (hw : C.w = X.w) (hc : X.calm = true) (hu : X.A.units + 66 < cLine) {o : Expr} {nm : Str} {apos cpos : Pos} {ev : Rho → M Vl} (hn : nm = m.name) (ho : PEd X C Ex o ev) (hbase : attributeBase o nm X.env (eval o X.env) = eval o X.env) (hline : (apos.endLine == cpos.line) = true) :
    PEd X C Ex (.Call (.Attribute o nm apos) [] [] cpos) (fun ρ => bnd (ev ρ) fun x => fun S => if isTy S m.ty x = true then bnd (pur []) (mtV m x) S else .bad) := by
  subst hn
  obtain ⟨h1, h2, h3⟩ := mt_slot m
  refine ⟨fun pins s σ H Q I q => ?_⟩
  refine (p_mt0 h1 h2 h3 (mtAll (C := C) (Ex := Ex σ) hw hc hu m) ho hbase hline).run pins s σ H Q I ?_
  obtain ⟨W, S, ρ, sr, r, q⟩ := q
  refine dT.one sr r q fun x S1 W1 H1 v l1 s1 r1 rx q => ?_
  by_cases ht : isTy S1 m.ty x = true
  · simp only [if_pos ht] at q
    exact ⟨isTy_at hw s1 rx ht, ⟨W1, S1, x, [], s1, rx, .nil, q⟩⟩
  · simp only [if_neg ht] at q; exact q.elim
/-! isinstance by a built-in class -/
theorem ty_at {W : Wd} {S : Store} {H : Hp} {d : PyData} {x : V} (s : SR X.K C W S H) (r : RV X.K W (.d d) x) : TyX X.K H x (.type (tyD d)) := by
  obtain ⟨h, c⟩ := r
  cases h with
  | non => exact .base .non
  | bl b => exact .base (.bl b)
  | int i => exact .base (.int i)
  | str z => exact .base (.str z)
  | lst h hs => exact .base (.lst (s.sub _ _ h))
  | tup h hs =>
    rcases h with (h | ⟨o, h⟩) | ⟨o, its, n, h, hc, _⟩
    · exact .base (.tup (s.sub _ _ h))
    · exact .fTuple (s.sub _ _ h)
    · exact .kTuple h hc
theorem d_isi {T : String} {p1 p2 pos : Pos} {a : Expr} {t : Str} {ev : Rho → M Vl} (hg : Gl X "isinstance") (hm : X.mg "isinstance" = none) (ht : Gl X t) (hmt : X.mg t = none) (hv : bootBuiltins t = some (.type T)) (hn : t ≠ "__name__") (hd : (t == ("__debug__" : Str)) = false)
    (hk : ∀ d : PyData, kitB (tyD d) T = some (tyD d == T || (tyD d == "bool" && T == "int")))
    (ha : PEd X C Ex a ev) (he : starEach [a, .Name t p2] X.env = (false, eval a X.env) :: starEach [.Name t p2] X.env) : PEd X C Ex (.Call (.Name "isinstance" p1) [a, .Name t p2] [] pos) (fun ρ => bnd (ev ρ) fun x => isiV x T) := by
  refine PE.weak (pe_callB call_isi hg hm (by decide +kernel) (pa_cons ha (pa_cons (pe_bltn ht hmt hv (v := .ty T) rfl hn hd) pa_nil rfl) he) (by decide) (by decide) he rfl) fun σ H Q ⟨W, S, ρ, s, r, q⟩ => ?_
  refine dT.one s r q fun x S1 W1 H1 v l1 s1 r1 rx q => ?_
  cases x with
  | d y => exact ⟨v, .ty T, _, _, _, rfl, .ty T, ty_at s1 rx, kit_ty (hk y), Run.pure s1 q (bl_rv _)⟩
  | scr ns => exact q.elim
  | loc n =>
    cases es : S1[n]? with
    | none => simp only [isiV, es] at q; exact q.elim
    | some o =>
      cases o with
      | lst xs =>
        simp only [isiV, es] at q
        obtain ⟨_, ho, h2, vs, rfl, r⟩ := s1.at_ n _ es (fun z => by cases z)
        obtain ⟨_, rfl⟩ := rx
        exact ⟨_, .ty T, _, _, _, rfl, .ty T, .base (.lst h2), kit_ty (hk (.list [])), Run.pure s1 q (bl_rv _)⟩
      | _ => simp only [isiV, es] at q; exact q.elim
end
end DL

namespace DL
open PySem PySem.Spec PyProof.Rows L2
section
variable {X : Cx} {C : Ctx} {Ex : L2.St → XD}
/-! dicts made -/
theorem d_dnew {pos : Pos} : PEd X C Ex (.Dict [] [] pos) (fun _ S => .ok (.loc S.length) (S ++ [.dk []])) := by
  refine PE.weak pe_dnewK fun σ H Q ⟨W, S, ρ, s, r, q⟩ p hp => ?_
  obtain ⟨t, s'⟩ := s.alloc (o := .dk []) (ho := .dK []) hp ⟨[], rfl, .nil⟩
  refine q _ _ _ t s' ⟨by show S.length < W.n + 1; rw [s.len]; exact Nat.lt_succ_self _, ?_⟩
  show _ = V.ref (if S.length = W.n then p else _)
  rw [if_pos s.len.symm]
/-- the values of a display whose keys are texts -/
theorem d_pairs {pos : Pos} : ∀ {ks : List Str} {keys : List (Option Expr)} {vals : List Expr} {evs : Rho → M (List Vl)} {trs : List TE}, True := fun {_ _ _ _ _} => True.intro
structure PDd (X : Cx) (C : Ctx) (Ex : L2.St → XD) (pos : Pos) (ks : List Str) (keys : List (Option Expr)) (vals : List Expr) (evs : Rho → M (List Vl)) : Prop where
  ex : ∃ trs, PPs X pos keys vals trs ∧ keys.length = ks.length ∧ vals.length = ks.length ∧ keys.all (·.isSome) = true ∧ ∀ {α' β' : Type} {RB : Wd → α' → β' → Prop} {g : List Vl → M α'} {σ : L2.St} {H : Hp} {Q : β' → Hp → Prop} {Q1 : List (V × V) → Hp → Prop} {W : Wd} {S : Store} {ρ : Rho},
    SR X.K C W S H → RE X.K W ρ σ → Run X.K C (Ex σ) RB (bnd (evs ρ) g S) W S H Q →
    (∀ as S' W' H' vs, Tr W S H W' S' H' → SR X.K C W' S' H' → RE X.K W' ρ σ → RVs X.K W' as vs → as.length = ks.length → Run X.K C (Ex σ) RB (g as S') W' S' H' Q → Q1 ((ks.map V.str).zip vs) H') → tPairs trs σ H Q1
theorem pd_nil {pos : Pos} : PDd X C Ex pos [] [] [] (fun _ => pur []) := ⟨[], pps_nil, rfl, rfl, rfl, fun s r h k => k [] _ _ _ [] (Tr.refl s) s r .nil rfl h⟩
theorem pd_cons {pos p1 : Pos} {n : Nat} {x : Str} {ks : List Str} {keys : List (Option Expr)} {v : Expr} {vals : List Expr} {ev : Rho → M Vl} {evs : Rho → M (List Vl)} (hv : PEd X C Ex v ev) (h : PDd X C Ex pos ks keys vals evs) :
    PDd X C Ex pos (x :: ks) (some (.Constant (.str x) n p1) :: keys) (v :: vals) (fun ρ => bnd (ev ρ) fun x => bnd (evs ρ) fun xs => pur (x :: xs)) := by
  obtain ⟨trs, h1, h2, h3, h4, h5⟩ := h.ex
  refine ⟨_, pps_cons pe_str hv h1, by simp [h2], by simp [h3], by simp [h4], fun {α' β' RB g σ H Q Q1 W S ρ} s r q k => ?_⟩
  (try dsimp only at q)
  rw [bind_assoc] at q
  refine ⟨W, S, ρ, s, r, Run.bnd q fun a S1 W1 H1 v1 t1 s1 ra q => ?_⟩
  rw [bind_assoc] at q
  refine h5 s1 (r.mono t1.le) q fun as S2 W2 H2 vs t2 s2 r2 ras hl q => ?_
  exact k (a :: as) S2 W2 H2 (v1 :: vs) (t1.trans t2) s2 r2 (.cons (ra.mono t2.le) ras) (by simp [hl]) q
theorem merge_new : ∀ (ks : List Str) (vs : List V) (acc : List (Key × V)), ks.length = vs.length → ks.Nodup → (∀ k ∈ ks, (Sum.inr k : Key) ∉ acc.map (·.1)) → mergeK acc ((ks.map (Sum.inr : Str → Key)).zip vs) = acc ++ (ks.map (Sum.inr : Str → Key)).zip vs
  | [], [], acc, _, _, _ => by simp [mergeK]
  | k :: ks, v :: vs, acc, hl, nd, hn => by
    have hk : (Sum.inr k : Key) ∉ acc.map (·.1) := hn k List.mem_cons_self
    have e : putK acc (Sum.inr k : Key) v = acc ++ [(Sum.inr k, v)] := by
      unfold putK
      rw [if_neg]
      intro h
      obtain ⟨p, hp, hq⟩ := List.any_eq_true.mp h
      exact hk (List.mem_map.mpr ⟨p, hp, of_decide_eq_true hq⟩)
    show mergeK (putK acc (Sum.inr k : Key) v) ((ks.map (Sum.inr : Str → Key)).zip vs) = _
    rw [e, merge_new ks vs _ (by simpa using hl) (List.nodup_cons.mp nd).2 fun j hj hm => ?_]
    · simp
    · rw [List.map_append, List.mem_append] at hm
      rcases hm with hm | hm
      · exact hn j (List.mem_cons_of_mem _ hj) hm
      · have : j = k := by simpa using hm
        subst this
        exact (List.nodup_cons.mp nd).1 hj
  | [], _ :: _, _, hl, _, _ => by simp at hl
  | _ :: _, [], _, hl, _, _ => by simp at hl
theorem zip_rel {W : Wd} : ∀ (ks : List Str) {as : List Vl} {vs : List V}, RVs X.K W as vs → Paired (fun (p : Key × Vl) (q : Key × V) => p.1 = q.1 ∧ RV X.K W p.2 q.2) ((ks.map (Sum.inr : Str → Key)).zip as) ((ks.map (Sum.inr : Str → Key)).zip vs)
  | [], _, _, _ => .nil
  | k :: ks, _, _, .nil => .nil
  | k :: ks, _, _, .cons h t => .cons ⟨rfl, h⟩ (zip_rel ks t)
theorem d_disp {pos : Pos} {ks : List Str} {keys : List (Option Expr)} {vals : List Expr} {evs : Rho → M (List Vl)} (h : PDd X C Ex pos ks keys vals evs) (h0 : keys ≠ []) (h15 : keys.length ≤ 15) : PEd X C Ex (.Dict keys vals pos) (fun ρ S => bnd (evs ρ) (dispSet S.length ks) (S ++ [.dk []])) := by
  obtain ⟨trs, h1, h2, h3, h4, h5⟩ := h.ex
  refine PE.weak (pe_disp h1 h4 (by rw [h2, h3]) h0 h15) fun σ H Q ⟨W, S, ρ, s, r, q⟩ p hp => ?_
  obtain ⟨t, s'⟩ := s.alloc (o := .dk []) (ho := .dK []) hp ⟨[], rfl, .nil⟩
  have q := Run.later t q
  refine h5 s' (r.mono t.le) q fun as S2 W2 H2 vs t2 s2 r2 ras hl q => ?_
  unfold dispSet at q
  have hf : W2.f S.length = p := by
    rw [t2.le.f _ (by show S.length < W.n + 1; rw [s.len]; exact Nat.lt_succ_self _)]
    show (if S.length = W.n then p else _) = p
    rw [if_pos s.len.symm]
  cases es : S2[S.length]? with
  | none => simp only [es] at q; exact q.elim
  | some o =>
    cases o with
    | dk kvs =>
      cases kvs with
      | nil =>
        simp only [es] at q
        by_cases hc : ks.length = as.length ∧ ks.Nodup
        · rw [if_pos hc] at q
          obtain ⟨g1, ho, g2, kvs', rfl, g3⟩ := s2.at_ _ _ es (fun z => by cases z)
          cases g3
          rw [hf] at g2
          have hlv : ks.length = vs.length := by rw [hc.1, rvs_len ras]
          refine ⟨g2, (ks.map (Sum.inr : Str → Key)).zip vs, ?_, ?_, ?_⟩
          · rw [List.map_zip_eq_zipWith, List.zipWith_map_left]
            show (ks.map V.str).zip vs = _
            rw [List.zip, List.zipWith_map_left]
            rfl
          · rw [List.length_zip, List.length_map]
            have := h2
            omega
          · rw [merge_new ks vs [] hlv hc.2 (fun k _ h => by cases h), List.nil_append]
            obtain ⟨t3, s3⟩ := s2.write (o' := .dk ((ks.map Sum.inr).zip as)) (ho := .dK ((ks.map (Sum.inr : Str → Key)).zip vs)) es (fun z => by cases z) (fun z => by cases z) ⟨_, rfl, zip_rel ks ras⟩
            rw [hf] at t3 s3
            refine q _ _ _ t3 s3 ⟨?_, by rw [hf]⟩
            have := live.lt ⟨_, es, fun z => by cases z⟩
            rw [s2.len]; exact this
        · rw [if_neg hc] at q; exact q.elim
      | cons kv kvs => simp only [es] at q; exact q.elim
    | _ => simp only [es] at q; exact q.elim
end
end DL

namespace DL
open PySem PySem.Spec PyProof.Rows L2
section
variable {X : Cx} {C : Ctx} {Ex : L2.St → XD}
/-! dicts with tuple keys made -/
theorem dd_fresh {P : Program} {w : World} {H : Hp} (h : Heap) (hb : sysModules < h.objs.size) : ObjOk P w H (h.push { cls := .type "dict", data := .dict #[] }) h.objs.size (rawD w h.objs.size []) :=
  rawD_ok (P := P) (vs := []) .nil (beq_eq_false_iff_ne.mpr (Ne.symm (Nat.ne_of_lt hb))) (Heap.DictOfH.new h)
theorem pe_ddnew {pos : Pos} : PE X (.Dict [] [] pos) (fun _ H Q => ∀ p, H p = none → Q (.ref p) (upd H p (rawD X.w p []))) := by
  constructor
  intro pins s σ H Q I h
  refine wpAny_Dict_empty ⟨.ref s.heap.objs.size, _, I.laid (a := s.heap.objs.size) (o := rawD X.w s.heap.objs.size []) (t' := s.toks) ?_ (Nat.le_refl _) (dd_fresh s.heap I.big), rfl, h _ (I.hok.fresh (Nat.le_refl _))⟩
  exact fun _ _ q => Heap.get?_push_of_some _ q
theorem dd_alloc (hw : C.w = X.w) {W : Wd} {S : Store} {H : Hp} {p : Addr} (s : SR X.K C W S H) (hp : H p = none) : ∃ W', Tr W S H W' (S ++ [.dd S.length []]) (upd H p (rawD X.w p [])) ∧ SR X.K C W' (S ++ [.dd S.length []]) (upd H p (rawD X.w p [])) ∧ S.length < W'.n ∧ W'.f S.length = p := by
  obtain ⟨t, s'⟩ := s.allocN (o := .dd S.length []) (ho := rawD X.w p []) hp ⟨[], by show S.length < W.n + 1; rw [s.len]; exact Nat.lt_succ_self _, by show rawD X.w p [] = rawD C.w (if S.length = W.n then p else _) []; rw [if_pos s.len.symm, hw], .nil⟩
  exact ⟨_, t, s', by show S.length < W.n + 1; rw [s.len]; exact Nat.lt_succ_self _, by show (if S.length = W.n then p else _) = p; rw [if_pos s.len.symm]⟩
theorem d_dnewT {pos : Pos} (hw : C.w = X.w) : PEd X C Ex (.Dict [] [] pos) (fun _ S => .ok (.loc S.length) (S ++ [.dd S.length []])) := by
  refine PE.weak pe_ddnew fun σ H Q ⟨W, S, ρ, s, r, q⟩ p hp => ?_
  obtain ⟨W', t, s', h1, h2⟩ := dd_alloc hw s hp
  exact q _ _ _ t s' ⟨h1, by rw [h2]⟩
/-- {k: v}, the key a tuple -/
theorem pe_dd1 {k v : Expr} {tk tv : TE} {pos : Pos} (hu : X.A.units + 66 < cLine) (hk : PE X k tk) (hv : PE X v tv) :
    PE X (.Dict [some k] [v] pos) (fun σ H Q => ∀ p, H p = none → tk σ (upd H p (rawD X.w p [])) fun x H1 => tv σ H1 fun y H2 => H2 p = some (rawD X.w p []) ∧ ∃ a kk, x = .ref a ∧ (∀ (pins' : List (Addr × Obj)) (s' : Shared), Inv X pins' σ H2 s' → (nestedKind X.prog X.w).is s'.heap kk a) ∧ Q (.ref p) (upd H2 p (rawD X.w p [(kk, a, y)]))) := by
  constructor
  intro pins s σ H Q I q
  have hn := I.hok.fresh (Nat.le_refl s.heap.objs.size)
  have I1 := I.laid (a := s.heap.objs.size) (o := rawD X.w s.heap.objs.size []) (h' := s.heap.push { cls := .type "dict", data := .dict #[] }) (t' := s.toks) (fun _ _ e => Heap.get?_push_of_some _ e) (Nat.le_refl _) (dd_fresh s.heap I.big)
  have e0 := zip_pairTrees [some k] [v] X.env pos rfl rfl
  rw [arm_eval_Dict, e0, dictDisplay_pairs (pairTrees [some k] [v] X.env pos) (by simp [pairTrees]) (by simp [pairTrees])]
  refine wpAny_bind (wpAny_standAt (wpAny_bind (wpAny_subDictH (knd := nestedKind X.prog X.w) (by show X.A.units + 8 < cLine; omega) (by simp [pairTrees]) ?_)))
  refine pairTrees_cons_walk (thn (hk.run pins _ σ _ _ I1 (q _ hn)) ?_)
  rintro u1 s2 ⟨x, H2, I2, rx, q2⟩
  refine thn (hv.run pins s2 σ H2 _ I2 q2) ?_
  rintro u2 s3 ⟨y, H3, I3, ry, e3, a, kk, ex, hkk, q3⟩
  subst ex
  cases (show u1 = Value.ref a from rx)
  obtain ⟨vs, rv, D, hd⟩ := rawD_at I3 e3 (fun x hx => by cases hx)
  cases rv
  refine pairTrees_nil_walk ⟨[(kk, a, u2)], ⟨rfl, rfl, hkk pins s3 I3, True.intro⟩, D, fun h' tk D' sb => wpAny_pure ?_⟩
  obtain ⟨us, e1, rv'⟩ := put_at (xs := []) (k := kk) (a := a) .nil ry
  have D1 : h'.DictOfH (nestedKind X.prog X.w) s.heap.objs.size (withVs (putR [] kk a y) us) := by
    rw [← e1]; exact D'
  obtain ⟨oo, _, _, ho', _⟩ := id D'
  exact ⟨.ref s.heap.objs.size, _, I3.write (e := s.heap.objs.size) (t' := tk) (by rw [e3]; exact True.intro) (.inl rfl) (fun b o hb z => (sb.2 b hb).trans z) ⟨_, ho'⟩ (rawD_ok rv' hd D1), rfl, q3⟩
theorem d_disp1 {k v : Expr} {pos : Pos} {ek ev : Rho → M Vl} (hw : C.w = X.w) (hu : X.A.units + 66 < cLine) (hk : PEd X C Ex k ek) (hv : PEd X C Ex v ev) :
    PEd X C Ex (.Dict [some k] [v] pos) (fun ρ S => bnd (bnd (ek ρ) fun x => bnd (ev ρ) fun y => disp1V S.length x y) pur (S ++ [.dd S.length []])) := by
  refine PE.weak (pe_dd1 hu hk hv) fun σ H Q ⟨W, S, ρ, s, r, q⟩ p hp => ?_
  obtain ⟨W', t, s', h1, h2⟩ := dd_alloc hw s hp
  have q := Run.later t q
  dsimp only at q
  rw [bnd_pur] at q
  refine dT.one s' (r.mono t.le) q fun x S1 W1 H1 vx l1 s1 r1 rx q => ?_
  refine ⟨W1, S1, ρ, s1, r1, Run.bnd q fun y S2 W2 H2 vy t2 s2 ry q => ?_⟩
  have rx2 := rx.mono t2.le
  have hf : W2.f S.length = p := by
    rw [(l1.trans t2.le).f _ h1, h2]
  cases es : S2[S.length]? with
  | none => simp only [disp1V, es] at q; exact q.elim
  | some o =>
    cases o with
    | dd m kvs =>
      cases kvs with
      | cons _ _ => simp only [disp1V, es] at q; exact q.elim
      | nil =>
        cases x with
        | d xx =>
          simp only [disp1V, es] at q
          cases ek' : dataKey xx with
          | none => simp only [ek'] at q; exact q.elim
          | some kk =>
            cases kk with
            | tup ks =>
              simp only [ek'] at q
              by_cases hc : m = S.length ∧ (NestedKey.tup ks).depth ≤ 8
              · rw [if_pos hc] at q
                obtain ⟨hm, h8⟩ := hc
                subst hm
                obtain ⟨_, ho, g2, xs, hn2, rfl, rel⟩ := s2.at_ _ _ es (fun z => by cases z)
                cases rel
                rw [hf, hw] at g2
                have hz := rx2.1
                rw [← dataKey_eq ek'] at hz
                have hz0 := hz
                rw [keyD] at hz
                cases hz with
                | @tup a _ _ hs ha =>
                  refine ⟨g2, a, .tup ks, rfl, fun pins' s' I' => ⟨nested_at I' s2.sub hz0 rfl, h8⟩, ?_⟩
                  obtain ⟨t3, s3⟩ := s2.write (o' := .dd S.length [(.tup ks, y)]) (ho := rawD X.w (W2.f S.length) [(.tup ks, a, vy)]) es (fun z => by cases z) (fun z => by cases z) ⟨[(.tup ks, a, vy)], hn2, by rw [hw], .cons ⟨rfl, hz0, h8, ry⟩ .nil⟩
                  rw [hf] at t3 s3
                  exact q _ _ _ t3 s3 ⟨hn2, by rw [hf]⟩
              · rw [if_neg hc] at q; exact q.elim
            | _ => simp only [ek'] at q; exact q.elim
        | _ => simp only [disp1V, es] at q; exact q.elim
    | _ => simp only [disp1V, es] at q; exact q.elim
end
end DL

namespace DL
open PySem PySem.Spec PyProof.Rows L2
/-! ### tuple(zip(a, b)) -/
def layZ : Hp → List Addr → List (V × V) → Hp
  | H, a :: as, q :: qs => layZ (upd H a (.tup [q.1, q.2])) as qs
  | H, _, _ => H
theorem layZ_off : ∀ {as : List Addr} {qs : List (V × V)} {H : Hp} {b : Addr}, b ∉ as → layZ H as qs b = H b
  | [], _, H, b, _ => by unfold layZ; rfl
  | _ :: _, [], H, b, _ => rfl
  | a :: as, q :: qs, H, b, h => by
    have h1 : b ≠ a := fun e => h (by rw [e]; exact List.mem_cons_self)
    show layZ _ as qs b = _
    rw [layZ_off fun m => h (List.mem_cons_of_mem _ m), upd_ne h1]
theorem layZ_hok {P : Program} {w : World} {h : Heap} : ∀ {as : List Addr} {qs : List (V × V)} {H : Hp}, HOk P w H h → as.Nodup → (∀ a ∈ as, H a = none) → (∀ (j : Nat) (a : Addr) (q : V × V), as[j]? = some a → qs[j]? = some q → ∃ u v, RelV q.1 u ∧ RelV q.2 v ∧ IsPair h a u v) → HOk P w (layZ H as qs) h
  | [], _, H, x, _, _, _ => by unfold layZ; exact x
  | _ :: _, [], H, x, _, _, _ => x
  | a :: as, q :: qs, H, x, nd, hn, hp => by
    obtain ⟨nd1, nd2⟩ := List.nodup_cons.mp nd
    have ha := hn a List.mem_cons_self
    obtain ⟨u, v, r1, r2, pr⟩ := hp 0 a q rfl rfl
    show HOk P w (layZ (upd H a (.tup [q.1, q.2])) as qs) h
    refine layZ_hok (as := as) (qs := qs) (x.laidN (fun _ _ e => e) ha (o := .tup [q.1, q.2]) ⟨by show 2 ≤ sizeLine; decide, [u, v], .cons r1 (.cons r2 .nil), _, pr, rfl, _, rfl⟩) nd2 (fun b hb => ?_) fun j b z e1 e2 => hp (j + 1) b z e1 e2
    rw [upd_ne fun e => nd1 (by rw [← e]; exact hb)]
    exact hn b (List.mem_cons_of_mem _ hb)
section
variable {X : Cx} {C : Ctx} {Ex : L2.St → XD}
theorem layZ_inv {pins : List (Addr × Obj)} {σ : L2.St} {H : Hp} {s : Shared} {h' : Heap} {t' : Nat} {as : List Addr} {qs : List (V × V)} (I : Inv X pins σ H s) (k : ∀ b u, s.heap.get? b = some u → h'.get? b = some u) (nd : as.Nodup) (hn : ∀ a ∈ as, s.heap.get? a = none ∧ H a = none)
    (hp : ∀ (j : Nat) (a : Addr) (q : V × V), as[j]? = some a → qs[j]? = some q → ∃ u v, RelV q.1 u ∧ RelV q.2 v ∧ IsPair h' a u v) : Inv X pins σ (layZ H as qs) { s with heap := h', toks := t' } := by
  have off : ∀ {b ob}, s.heap.get? b = some ob → b ∉ as := fun e hm => by rw [(hn _ hm).1] at e; cases e
  have off2 : ∀ {b ho}, H b = some ho → b ∉ as := fun e hm => by rw [(hn _ hm).2] at e; cases e
  refine I.un ⟨fun b u q _ _ _ => k b u q, fun b u q _ _ _ => ⟨u.slots, k b u q⟩, fun b u q n _ => by rw [layZ_off (off q)]; exact n, fun b u q _ => ⟨u, k b u q⟩, fun b xs q => by rw [layZ_off (off2 q)]; exact q, fun b u xs q => by rw [layZ_off (off2 q)]; exact q, fun b ps q => ⟨#[], by rw [layZ_off (off2 q), q]; simp⟩⟩ (layZ_hok (I.hok.kept k) nd (fun a ha => (hn a ha).2) hp)
theorem layZ_run {K : PySem.W.Frag} : ∀ {as : List Addr} {qs : List (V × V)} {ps : List (PyData × PyData)} {W : Wd} {S : Store} {H : Hp}, SR K C W S H → as.Nodup → (∀ a ∈ as, H a = none) → as.length = qs.length → Paired (fun (q : V × V) (p : PyData × PyData) => RV K W (.d p.1) q.1 ∧ RV K W (.d p.2) q.2) qs ps →
    ∃ W', Tr W S H W' S (layZ H as qs) ∧ SR K C W' S (layZ H as qs) ∧ RVs K W' ((ps.map fun p => PyData.tuple [p.1, p.2]).map .d) (as.map V.ref)
  | [], _, _, W, S, H, s, _, _, hl, .nil => ⟨W, by unfold layZ; exact Tr.refl s, by unfold layZ; exact s, .nil⟩
  | [], _, _, W, S, H, s, _, _, hl, .cons _ _ => by simp at hl
  | _ :: _, _, _, W, S, H, s, _, _, hl, .nil => by simp at hl
  | a :: as, q :: qs, p :: ps, W, S, H, s, nd, hn, hl, .cons h t => by
    obtain ⟨nd1, nd2⟩ := List.nodup_cons.mp nd
    have ha := hn a List.mem_cons_self
    obtain ⟨t1, s1⟩ := s.laid (.tup [q.1, q.2]) ha
    obtain ⟨W', t2, s2, r2⟩ := layZ_run (as := as) (qs := qs) (ps := ps) s1 nd2 (fun b hb => by rw [upd_ne fun e => nd1 (by rw [← e]; exact hb)]; exact hn b (List.mem_cons_of_mem _ hb)) (by simpa using hl) (Paired.mapP t fun _ _ ⟨x, y⟩ => ⟨x.mono t1.le, y.mono t1.le⟩)
    refine ⟨W', t1.trans t2, s2, .cons (RV.mono t2.le ⟨.tup (.inl (.inl (by show upd W.z a _ a = _; exact upd_same))) (.cons (h.1.mono t1.le).1 (.cons (h.2.mono t1.le).1 .nil)), ?_⟩) r2⟩
    have c1 := h.1.2
    have c2 := h.2.2
    simp only [PyData.canLay0, PyData.canLayAll0, c1, c2]; rfl
/-- tuple(zip(e, e2)) of two lists -/
theorem pe_zipT {e e2 : Expr} {ta : TA} {p p2 pos pos2 : Pos} (hc : X.calm = true) (hg : Gl X "tuple") (hm : X.mg "tuple" = none) (hg2 : Gl X "zip") (hm2 : X.mg "zip" = none) (ha : PA X [e, e2] ta)
    (hs : starEach [e, e2] X.env = (false, eval e X.env) :: starEach [e2] X.env) (hpl : (backTo pos2 (starEach [e2] X.env)).any (·.1) = false)
    (hs2 : starEach [.Call (.Name "zip" p2) [e, e2] [] pos2] X.env = (false, eval (.Call (.Name "zip" p2) [e, e2] [] pos2) X.env) :: starEach [] X.env) :
    PE X (.Call (.Name "tuple" p) [.Call (.Name "zip" p2) [e, e2] [] pos2] [] pos) (fun σ H Q => ta σ H fun vs H1 => ∃ a b xs ys, vs = [.ref a, .ref b] ∧ SqL X.K H1 a xs ∧ SqL X.K H1 b ys ∧
      ∀ as q, as.Nodup → (∀ c ∈ as, H1 c = none) → as.length = (xs.zip ys).length → q ∉ as → H1 q = none → Q (.ref q) (upd (layZ H1 as (xs.zip ys)) q (.tup (as.map V.ref)))) := by
  constructor
  intro pins s σ H Q I h
  refine Call_ (ld_blt I hg hm (show bootBuiltins "tuple" = some (.type "tuple") from by decide +kernel) (PyProof.Rows.callWith_type1 (args_cons (Call_ (ld_blt I hg2 hm2 PyProof.Rows.boot_zip (PyProof.Rows.callWith_type1 (thn (ha.run pos2 pins s σ H _ I h) ?_) hs hpl))) hs2) hs2 rfl))
  rintro us s1 ⟨vs, H1, I1, r1, a, b, xs, ys, ev, hqx, hqy, q⟩
  subst ev
  cases r1 with
  | cons rx r1 =>
    cases r1 with
    | cons ry r1 =>
      cases r1
      cases rx
      cases ry
      obtain ⟨its, rv, l1, z1⟩ := I1.list hqx
      obtain ⟨its2, rv2, l2, z2⟩ := I1.list hqy
      have n1 := rv.length
      have n2 := rv2.length
      refine call_zip_2 l1.isList l2.isList fun h' hz hTI hTO h1 h2 hsz hk => args_nil ?_
      refine RT.z_tuple (s := { s1 with heap := h' }) (xs := its.toArray) (ys := its2.toArray) (I1.ok.hd hc) (PySem.W.ktu_apart s1.heap.objs.size a b l1.lt l2.lt) ⟨hz, hTI, ⟨_, _, hTO⟩, h1, h2, l1.isList.at fun o e => hk _ o e, l2.isList.at fun o e => hk _ o e⟩ (by simp; omega) fun h3 as out => ?_
      obtain ⟨k3, kl, g1, g2, g3⟩ := out
      have k : ∀ c o, s1.heap.get? c = some o → h3.get? c = some o := fun c o e => by
        have := Heap.lt_size e
        have far : ∀ n : Nat, c ≠ s1.heap.objs.size + n := fun n => Nat.ne_of_lt (Nat.lt_of_lt_of_le this (Nat.le_add_right _ _))
        exact k3 c o (far 4) (far 3) (far 0) (far 1) (hk c o e)
      have lo : ∀ c ∈ as, s1.heap.objs.size ≤ c ∧ c < h3.objs.size := fun c hcm => by
        obtain ⟨b1, _, _, _, _, _, b7⟩ := g2 c hcm
        have b1 : h'.objs.size ≤ c := b1
        rw [hsz] at b1
        exact ⟨Nat.le_trans (Nat.le_add_right _ 5) b1, b7⟩
      have nd : as.Nodup := g1.imp fun h => Nat.ne_of_lt h
      have fr : ∀ c ∈ as, s1.heap.get? c = none ∧ H1 c = none := fun c hcm => ⟨by
        cases e : s1.heap.get? c with
        | none => rfl
        | some o => exact absurd (Heap.lt_size e) (Nat.not_lt.mpr (lo c hcm).1), I1.hok.fresh (lo c hcm).1⟩
      have el : as.length = (xs.zip ys).length := by
        rw [kl, List.length_zip, n1, n2]
        simp
      have I2 : Inv X pins σ (layZ H1 as (xs.zip ys)) { s1 with heap := h3 } := layZ_inv (t' := s1.toks) I1 k nd fr fun j c z e1 e2 => by
        obtain ⟨x, y, ex, ey, pr⟩ := g3 j c e1
        obtain ⟨ez1, ez2⟩ := List.getElem?_zip_eq_some.mp e2
        obtain ⟨u, hu, ru⟩ := rv.get ez1
        obtain ⟨u2, hu2, ru2⟩ := rv2.get ez2
        have q1 : its[j]? = some x := by simpa using ex
        have q2 : its2[j]? = some y := by simpa using ey
        rw [hu] at q1
        rw [hu2] at q2
        cases q1
        cases q2
        exact ⟨_, _, ru, ru2, pr⟩
      have hq0 : h3.objs.size ∉ as := fun hm => absurd (lo _ hm).2 (Nat.lt_irrefl _)
      have hle : s1.heap.objs.size ≤ h3.objs.size := by
        have far : ∀ m n : Nat, m ≠ n → s1.heap.objs.size + m ≠ s1.heap.objs.size + n := fun m n h e => h (Nat.add_left_cancel e)
        have e := k3 (s1.heap.objs.size + 2) _ (far 2 4 (by decide)) (far 2 3 (by decide)) (far 2 0 (by decide)) (far 2 1 (by decide)) hTI
        exact Nat.le_of_lt (Nat.lt_of_le_of_lt (Nat.le_add_right _ 2) (Heap.lt_size e))
      have hsz2 : (as.map V.ref).length ≤ sizeLine := by
        rw [List.length_map, el, List.length_zip]; omega
      refine ⟨.ref h3.objs.size, _, I2.laid (a := h3.objs.size) (o := .tup (as.map V.ref)) (t' := s1.toks) (fun _ _ e => Heap.get?_push_of_some _ e) (Nat.le_refl _) ⟨hsz2, as.map Value.ref, ?_, _, Heap.get?_push_size _ rfl, rfl, _, rfl⟩, rfl, q as _ nd (fun c hc => (fr c hc).2) el hq0 (I1.hok.fresh hle)⟩
      clear g1 g2 g3 kl lo nd fr el I2 hq0 hsz2
      induction as with
      | nil => exact .nil
      | cons c as ih => exact .cons rfl ih
theorem zip_rvs {K : PySem.W.Frag} {W : Wd} : ∀ {ds es : List PyData} {vs us : List V}, RVs K W (ds.map .d) vs → RVs K W (es.map .d) us → Paired (fun (q : V × V) (p : PyData × PyData) => RV K W (.d p.1) q.1 ∧ RV K W (.d p.2) q.2) (vs.zip us) (ds.zip es)
  | [], _, _, _, r, _ => by cases r; exact .nil
  | _ :: _, [], _, _, r, r2 => by cases r2; rw [List.zip_nil_right, List.zip_nil_right]; exact .nil
  | d :: ds, e :: es, _, _, r, r2 => by
    cases r with
    | cons h t =>
      cases r2 with
      | cons h2 t2 => exact .cons ⟨h, h2⟩ (zip_rvs t t2)
theorem d_zipT {e e2 : Expr} {ea eb : Rho → M Vl} {p p2 pos pos2 : Pos} (hc : X.calm = true) (hg : Gl X "tuple") (hm : X.mg "tuple" = none) (hg2 : Gl X "zip") (hm2 : X.mg "zip" = none) (ha : PEd X C Ex e ea) (hb : PEd X C Ex e2 eb)
    (hs : starEach [e, e2] X.env = (false, eval e X.env) :: starEach [e2] X.env) (hs1 : starEach [e2] X.env = (false, eval e2 X.env) :: starEach [] X.env)
    (hs2 : starEach [.Call (.Name "zip" p2) [e, e2] [] pos2] X.env = (false, eval (.Call (.Name "zip" p2) [e, e2] [] pos2) X.env) :: starEach [] X.env) :
    PEd X C Ex (.Call (.Name "tuple" p) [.Call (.Name "zip" p2) [e, e2] [] pos2] [] pos) (fun ρ => bnd (ea ρ) fun x => bnd (eb ρ) fun y => zipTV x y) := by
  refine PE.weak (pe_zipT hc hg hm hg2 hm2 (pa_cons ha (pa_cons hb pa_nil hs1) hs) hs (by rw [hs1]; rfl) hs2) fun σ H Q ⟨W, S, ρ, s, r, q⟩ => ?_
  refine dT.one s r q fun x S1 W1 H1 v l1 s1 r1 rx q => ?_
  refine dT.one s1 r1 q fun y S2 W2 H2 u l2 s2 r2 ry q => ?_
  unfold zipTV at q
  cases e1 : (rdL S2 x).bind pds with
  | none => simp only [e1] at q; exact q.elim
  | some ds =>
    cases e3 : (rdL S2 y).bind pds with
    | none => simp only [e1, e3] at q; exact q.elim
    | some es =>
      simp only [e1, e3] at q
      obtain ⟨a, vs, ex, sq, rv⟩ := lstD_at s2 (rx.mono l2) e1
      obtain ⟨b, us, ey, sq2, rv2⟩ := lstD_at s2 ry e3
      subst ex
      subst ey
      refine ⟨a, b, vs, us, rfl, sq, sq2, fun as p nd hn hl hp hpn => ?_⟩
      obtain ⟨W3, t3, s3, r3⟩ := layZ_run s2 nd hn hl (zip_rvs rv rv2)
      obtain ⟨t4, s4⟩ := s3.laid (p := p) (.tup (as.map V.ref)) (by rw [layZ_off hp]; exact hpn)
      obtain ⟨d1, d2⟩ := rvs_dp (r3.mono t4.le)
      refine q _ _ _ (t3.trans t4) s4 ⟨.tup (.inl (.inl (by show upd W3.z p _ p = _; exact upd_same))) d1, ?_⟩
      show PyData.canLay0 (.tuple _) = true
      simp only [PyData.canLay0]; exact d2
end
end DL

namespace DL
open PySem PySem.Spec PyProof.Rows L2
/-! ### instances -/
section
variable {X : Cx} {C : Ctx} {Ex : L2.St → XD} {Wx : WX}
/-- a field that the class itself has not -/
def AttOk (X : Cx) (C : Ctx) (c f : Str) : Prop := ∃ a, C c = some a ∧ Cls X.K a ∧ NoAttr X.K a f
structure MCal (X : Cx) (C : Ctx) (c m : Str) (g : List Vl → M Vl) : Prop where
  ex : ∃ a addr fd ps k, C c = some a ∧ Cls X.K a ∧ Meth X.K a m addr ∧ FnG X.prog X.w X.K X.mg X.base k addr fd ps (spF X.K C g) ∧ Room k X.A ∧ X.A.guards = some [] ∧ Binds X.K fd ps []
structure NCal (X : Cx) (C : Ctx) (c : Str) (g : List Vl → M Vl) : Prop where
  ex : ∃ a addr fd ps k, C c = some a ∧ X.mg c = some (.ref a) ∧ Mk X.K a addr ∧ FnG X.prog X.w X.K X.mg X.base k addr fd ps (spF X.K C g) ∧ Room (k + 1) X.A ∧ X.A.guards = some [] ∧ Binds X.K fd ps []
abbrev RelF (K : PySem.W.Frag) (W : Wd) : List (Str × Vl) → List (Str × V) → Prop := Paired fun (p : Str × Vl) (q : Str × V) => p.1 = q.1 ∧ RV K W p.2 q.2
theorem lookF_at {K : PySem.W.Frag} {W : Wd} {f : Str} : ∀ {fs : List (Str × Vl)} {gs : List (Str × V)}, RelF K W fs gs → (lookF fs f = none ∧ gs.lookup f = none) ∨ ∃ y v, lookF fs f = some y ∧ gs.lookup f = some v ∧ RV K W y v
  | _, _, .nil => .inl ⟨rfl, rfl⟩
  | (a, y) :: fs, (b, v) :: gs, .cons h t => by
    obtain ⟨e, rv⟩ := h
    have e : a = b := e
    subst e
    have ih := lookF_at (f := f) t
    unfold lookF at ih ⊢
    by_cases hf : a = f
    · refine .inr ⟨y, v, ?_, ?_, rv⟩
      · rw [List.find?_cons_of_pos (by simpa using hf)]; rfl
      · subst hf; simp [List.lookup]
    · have hb : (f == a) = false := beq_eq_false_iff_ne.mpr fun z => hf z.symm
      rw [List.find?_cons_of_neg (by simpa using hf)]
      simp only [List.lookup, hb]
      exact ih
theorem putF_at {K : PySem.W.Frag} {W : Wd} {f : Str} {y : Vl} {v : V} (r : RV K W y v) : ∀ {fs : List (Str × Vl)} {gs : List (Str × V)}, RelF K W fs gs → RelF K W (putF fs f y) (L2.putF f v gs)
  | _, _, .nil => .cons ⟨rfl, r⟩ .nil
  | (a, z) :: fs, (b, u) :: gs, .cons h t => by
    obtain ⟨e, rv⟩ := h
    have e : a = b := e
    subst e
    show RelF K W (if a = f then (a, y) :: fs else (a, z) :: putF fs f y) (if a = f then (a, v) :: gs else (a, u) :: L2.putF f v gs)
    by_cases hf : a = f
    · rw [if_pos hf, if_pos hf]; exact .cons ⟨rfl, r⟩ t
    · rw [if_neg hf, if_neg hf]; exact .cons ⟨rfl, rv⟩ (putF_at r t)
theorem d_fld {e : Expr} {c f : Str} {pos : Pos} {ev : Rho → M Vl} (at_ : AttOk X C c f) (he : PEd X C Ex e ev) (hb : attributeBase e f X.env (eval e X.env) = eval e X.env) : PEd X C Ex (.Attribute e f pos) (fun ρ => bnd (ev ρ) (fldV c f)) := by
  refine PE.weak (pe_fld he hb) fun σ H Q ⟨W, S, ρ, s, r, q0⟩ => ?_
  refine dT.one s r q0 fun x S1 W1 H1 v l1 s1 r1 rx q => ?_
  obtain ⟨a, ha, hc, hn⟩ := at_
  cases x with
  | loc n =>
    obtain ⟨_, exv⟩ := rx
    subst exv
    cases es : S1[n]? with
    | none => simp only [fldV, es] at q; exact q.elim
    | some o =>
      cases o with
      | ins c' fs =>
        simp only [fldV, es] at q
        by_cases hcc : c' = c
        · rw [if_pos hcc] at q
          subst hcc
          obtain ⟨_, ho, g2, a', dx, gs, rfl, ea, rel⟩ := s1.at_ _ _ es (fun z => by cases z)
          rw [ha] at ea
          cases ea
          rcases lookF_at (f := f) rel with ⟨e1, _⟩ | ⟨y, v, e1, e2, rv⟩
          · rw [e1] at q; exact q.elim
          · rw [e1] at q
            exact ⟨_, a, dx, gs, v, rfl, g2, hc, hn, e2, Run.now s1 q rv⟩
        · rw [if_neg hcc] at q; exact q.elim
      | _ => simp only [fldV, es] at q; exact q.elim
  | _ => exact q.elim
/-- what stands at an instance -/
theorem ins_at {K : PySem.W.Frag} {W : Wd} {S : Store} {H : Hp} {n : Nat} {c : Str} {fs : List (Str × Vl)} (s : SR K C W S H) (e : S[n]? = some (.ins c fs)) : ∃ a dx gs, C c = some a ∧ H (W.f n) = some (.ins a dx gs) ∧ RelF K W fs gs := by
  obtain ⟨_, ho, g2, a', dx, gs, rfl, ea, rel⟩ := s.at_ _ _ e (fun z => by cases z)
  exact ⟨a', dx, gs, ea, g2, rel⟩
theorem insOk_at {K : PySem.W.Frag} {W : Wd} {S : Store} {H : Hp} {c m : Str} {x : Vl} {v : V} (s : SR K C W S H) (r : RV K W x v) (h : insOk c m x S = true) : ∃ p a dx gs, v = .ref p ∧ C c = some a ∧ H p = some (.ins a dx gs) ∧ gs.lookup m = none := by
  cases x with
  | loc n =>
    obtain ⟨_, ev⟩ := r
    subst ev
    cases es : S[n]? with
    | none => simp [insOk, es] at h
    | some o =>
      cases o with
      | ins c' fs =>
        simp only [insOk, es, Bool.and_eq_true, decide_eq_true_eq, Option.isNone_iff_eq_none] at h
        obtain ⟨rfl, hm⟩ := h
        obtain ⟨a, dx, gs, ha, hp, rel⟩ := ins_at s es
        rcases lookF_at (f := m) rel with ⟨_, e2⟩ | ⟨y, v, e1, _⟩
        · exact ⟨_, a, dx, gs, rfl, ha, hp, e2⟩
        · rw [hm] at e1; cases e1
      | _ => simp [insOk, es] at h
  | _ => simp [insOk] at h
end
section
variable {X : Cx} {C : Ctx} {Wx : WX} {P : Pg}
theorem pe_methG {o e : Expr} {es : List Expr} {m : Str} {apos pos : Pos} {ta : TE} {t : TA} {E : L2.St → XK} {a addr : Addr} {fd : FuncData} {ps : List Str} {k : Nat} {sp : Sp} {pl : Sem Bool} (he : PE X o ta) (c : Cls X.K a) (hm : Meth X.K a m addr) (F : FnG X.prog X.w X.K X.mg X.base k addr fd ps sp) (hr : Room k X.A) (gd : X.A.guards = some []) (hb : Binds X.K fd ps []) (hx : ∀ σ, PassesAt (L2.CX X.prog X.w) X σ (E σ)) (ha : PA X (e :: es) t)
    (hst : starEach (e :: es) X.env = (false, eval e X.env) :: starEach es X.env) (hpl : (backTo pos (starEach es X.env)).any (·.1) = false)
    (ht : eval (.Call (.Attribute o m apos) (e :: es) [] pos) X.env = (do
      let ov ← eval o X.env
      standAt apos.atName
      let (f, first) ← holding [ov] (getMethod ov m pl)
      callWith pos f first (backTo pos (starEach (e :: es) X.env)) (backToKw pos (keywordEach [] X.env)))) :
    PE X (.Call (.Attribute o m apos) (e :: es) [] pos) (fun σ H Q => ta σ H fun x H1 => ∃ p dx gs, x = .ref p ∧ H1 p = some (.ins a dx gs) ∧ gs.lookup m = none ∧ t σ H1 fun vs H2 => sp (x :: vs) H2 Q (E σ)) := by
  constructor
  intro pins s σ H Q I h
  refine PySem.W.methodCall_KW (pl := pl) (thn (he.run pins s σ H _ I h) ?_) ht
  rintro u s1 ⟨x, H1, I1, rx, p, dx, gs, ex, ea, l, q⟩
  subst ex
  cases (show u = Value.ref p from rx)
  refine getmeth_ok I1 ea c hm l (PySem.W.callWith_K (first := [.ref p]) (h₀ := X.base) I1.ok.mod.kin hm.kp (thn (ha.run pos pins s1 σ H1 _ I1 q) ?_) hst hpl)
  rintro us s2 ⟨vs, H2, J, r, q2⟩
  refine ⟨J.kIn, ?_⟩
  have r2 : Vals (V.ref p :: vs) (Value.ref p :: us) := .cons rfl r
  have hl : (Value.ref p :: us).length = ps.length := by rw [← r2.length]; exact F.len _ _ _ _ q2
  have bi : BindsTo s2 fd ⟨Value.ref p :: us, []⟩ (ps.zip (Value.ref p :: us)) := by
    have := hb s2 (Value.ref p :: us) J.kIn (by rw [List.append_nil]; exact hl)
    rwa [List.append_nil] at this
  refine wpAny_call (codeAny_mono (F.run X.A X.stack s2 H2 ⟨Value.ref p :: us, []⟩ (Value.ref p :: us) (V.ref p :: vs) Q (E σ) hr gd J.env0 bi r2 q2) fun res s' hq => ?_)
  match res, hq with
  | .error e, hq => exact hx σ pins H2 s2 e s' J hq
  | .ok (.ret u), hq => exact J.after hq
  | .ok .next, hq => exact hq.elim
  | .ok .brk, hq => exact hq.elim
  | .ok .cont, hq => exact hq.elim
theorem pe_methG0 {o : Expr} {m : Str} {apos pos : Pos} {ta : TE} {E : L2.St → XK} {a addr : Addr} {fd : FuncData} {ps : List Str} {k : Nat} {sp : Sp} {pl : Sem Bool} (he : PE X o ta) (c : Cls X.K a) (hm : Meth X.K a m addr) (F : FnG X.prog X.w X.K X.mg X.base k addr fd ps sp) (hr : Room k X.A) (gd : X.A.guards = some []) (hb : Binds X.K fd ps []) (hx : ∀ σ, PassesAt (L2.CX X.prog X.w) X σ (E σ))
    (ht : eval (.Call (.Attribute o m apos) [] [] pos) X.env = (do
      let ov ← eval o X.env
      standAt apos.atName
      let (f, first) ← holding [ov] (getMethod ov m pl)
      callWith pos f first (backTo pos (starEach [] X.env)) (backToKw pos (keywordEach [] X.env)))) :
    PE X (.Call (.Attribute o m apos) [] [] pos) (fun σ H Q => ta σ H fun x H1 => ∃ p dx gs, x = .ref p ∧ H1 p = some (.ins a dx gs) ∧ gs.lookup m = none ∧ sp [x] H1 Q (E σ)) := by
  constructor
  intro pins s σ H Q I h
  refine PySem.W.methodCall_KW (pl := pl) (thn (he.run pins s σ H _ I h) ?_) ht
  rintro u s2 ⟨x, H2, J, rx, p, dx, gs, ex, ea, l, q2⟩
  subst ex
  cases (show u = Value.ref p from rx)
  refine getmeth_ok J ea c hm l (PySem.W.callWith_K0 (first := [.ref p]) J.kIn hm.kp ?_)
  have r2 : Vals [V.ref p] [Value.ref p] := .cons rfl .nil
  have hl : [Value.ref p].length = ps.length := by rw [← r2.length]; exact F.len _ _ _ _ q2
  have bi : BindsTo s2 fd ⟨[Value.ref p], []⟩ (ps.zip [Value.ref p]) := by
    have := hb s2 [Value.ref p] J.kIn (by rw [List.append_nil]; exact hl)
    rwa [List.append_nil] at this
  refine wpAny_call (codeAny_mono (F.run X.A X.stack s2 H2 ⟨[Value.ref p], []⟩ [Value.ref p] [V.ref p] Q (E σ) hr gd J.env0 bi r2 q2) fun res s' hq => ?_)
  match res, hq with
  | .error e, hq => exact hx σ pins H2 s2 e s' J hq
  | .ok (.ret u), hq => exact J.after hq
  | .ok .next, hq => exact hq.elim
  | .ok .brk, hq => exact hq.elim
  | .ok .cont, hq => exact hq.elim
theorem d_meth {o e : Expr} {es : List Expr} {c m : Str} {apos pos : Pos} {ev : Rho → M Vl} {evs : Rho → M (List Vl)} {pl : Sem Bool} (tk : Takes X Wx) (k : MCal X C c m (P.fn (mkey c m))) (ho : PEd X C (exW X.K C Wx) o ev) (ha : PAd X C (exW X.K C Wx) (e :: es) evs)
    (hst : starEach (e :: es) X.env = (false, eval e X.env) :: starEach es X.env) (hpl : (backTo pos (starEach es X.env)).any (·.1) = false)
    (ht : eval (.Call (.Attribute o m apos) (e :: es) [] pos) X.env = (do
      let ov ← eval o X.env
      standAt apos.atName
      let (f, first) ← holding [ov] (getMethod ov m pl)
      callWith pos f first (backTo pos (starEach (e :: es) X.env)) (backToKw pos (keywordEach [] X.env)))) :
    PEd X C (exW X.K C Wx) (.Call (.Attribute o m apos) (e :: es) [] pos) (fun ρ => bnd (ev ρ) fun x => fun S => if insOk c m x S = true then bnd (evs ρ) (methV P c m x) S else .bad) := by
  obtain ⟨a, addr, fd, ps, kk, hca, hcl, hmt, F, hr, gd, hb⟩ := k.ex
  refine PE.weak (pe_methG (pl := pl) (E := WE Wx) ho hcl hmt F hr gd hb (passAt tk) ha hst hpl ht) fun σ H Q ⟨W, S, ρ, s, r, q0⟩ => ?_
  refine dT.one s r q0 fun x S1 W1 H1 v l1 s1 r1 rx q => ?_
  by_cases hi : insOk c m x S1 = true
  · simp only [if_pos hi] at q
    obtain ⟨p, a', dx, gs, ev, ha', hp, hl⟩ := insOk_at s1 rx hi
    rw [hca] at ha'
    cases ha'
    refine ⟨p, dx, gs, ev, hp, hl, dA.one s1 r1 q fun xs S2 W2 H2 vs l2 s2 r2 rxs q2 => ?_⟩
    exact ⟨W2, S2, x :: xs, s2, .cons (rx.mono l2) rxs, q2⟩
  · simp only [if_neg hi] at q; exact q.elim
theorem d_meth0 {o : Expr} {c m : Str} {apos pos : Pos} {ev : Rho → M Vl} {pl : Sem Bool} (tk : Takes X Wx) (k : MCal X C c m (P.fn (mkey c m))) (ho : PEd X C (exW X.K C Wx) o ev)
    (ht : eval (.Call (.Attribute o m apos) [] [] pos) X.env = (do
      let ov ← eval o X.env
      standAt apos.atName
      let (f, first) ← holding [ov] (getMethod ov m pl)
      callWith pos f first (backTo pos (starEach [] X.env)) (backToKw pos (keywordEach [] X.env)))) :
    PEd X C (exW X.K C Wx) (.Call (.Attribute o m apos) [] [] pos) (fun ρ => bnd (ev ρ) fun x => fun S => if insOk c m x S = true then bnd (pur []) (methV P c m x) S else .bad) := by
  obtain ⟨a, addr, fd, ps, kk, hca, hcl, hmt, F, hr, gd, hb⟩ := k.ex
  refine PE.weak (pe_methG0 (pl := pl) (E := WE Wx) ho hcl hmt F hr gd hb (passAt tk) ht) fun σ H Q ⟨W, S, ρ, s, r, q0⟩ => ?_
  refine dT.one s r q0 fun x S1 W1 H1 v l1 s1 r1 rx q => ?_
  by_cases hi : insOk c m x S1 = true
  · simp only [if_pos hi] at q
    obtain ⟨p, a', dx, gs, ev, ha', hp, hl⟩ := insOk_at s1 rx hi
    rw [hca] at ha'
    cases ha'
    exact ⟨p, dx, gs, ev, hp, hl, W1, S1, [x], s1, .cons rx .nil, q⟩
  · simp only [if_neg hi] at q; exact q.elim
end
end DL

namespace DL
open PySem PySem.Spec PyProof.Rows L2
section
variable {X : Cx} {C : Ctx} {Wx : WX} {P : Pg}
/-- something beside the store -/
theorem SR.beside {K : PySem.W.Frag} {W : Wd} {S : Store} {H : Hp} (s : SR K C W S H) {p : Addr} (o : HO) (hp : H p = none) : Tr W S H W S (upd H p o) ∧ SR K C W S (upd H p o) := by
  refine ⟨⟨Le.refl W, fun a x e _ => by rw [upd_ne (ne_of_none e hp)]; exact e, fun a e => ?_, fun a e => .inl e, fun _ h _ => h, fun n h hl => absurd h.lt (by rw [← s.len]; exact Nat.not_lt.mpr hl)⟩, ⟨s.len, fun b x e => ?_, fun n x e hd => ?_, s.inj⟩⟩
  · by_cases h : a = p
    · rw [h, upd_same] at e; cases e
    · rwa [upd_ne h] at e
  · have := s.sub b x e
    rw [upd_ne (ne_of_none this hp)]; exact this
  · obtain ⟨g1, ho, g2, g3⟩ := s.at_ n x e hd
    exact ⟨g1, ho, by rw [upd_ne (ne_of_none g2 hp)]; exact g2, g3⟩
theorem guards_make {B : Around} {a : Addr} {us : List Value} : (B.under (.builtin "type.__call__" ⟨.ref a :: us, []⟩)).guards = B.guards := by
  first | rfl | simp [Around.under, Code.weight, Code.isCreation, Code.isGuard, Code.isCaller, Code.frames, Code.isFrame, guardIds]
theorem pe_makeG {x : Str} {p pos : Pos} {e : Expr} {es : List Expr} {t : TA} {E : L2.St → XK} {a addr : Addr} {fd : FuncData} {ps : List Str} {k : Nat} {sp : Sp} (M : Mk X.K a addr) (F : FnG X.prog X.w X.K X.mg X.base k addr fd ps sp) (hr : Room (k + 1) X.A) (gd : X.A.guards = some []) (hg : Gl X x) (hm : X.mg x = some (.ref a)) (hb : Binds X.K fd ps []) (hx : ∀ σ, PassesAt (L2.CX X.prog X.w) X σ (E σ))
    (ha : PA X (e :: es) t) (hdb : (x == ("__debug__" : Str)) = false) (he : starEach (e :: es) X.env = (false, eval e X.env) :: starEach es X.env) (hpl : (backTo pos (starEach es X.env)).any (·.1) = false) :
    PE X (.Call (.Name x p) (e :: es) [] pos) (fun σ H Q => t σ H fun vs H1 => ∀ q dx, H1 q = none → H1 dx = none → dx ≠ q → sp (.ref q :: vs) (upd (upd H1 dx (.own q)) q (.ins a dx [])) (fun v H2 => v = .non ∧ Q (.ref q) H2) (E σ)) := by
  constructor
  intro pins s σ H Q I h
  refine wpAny_Call_Name_kw (ld_glob I hg hm ?_ hdb)
  refine PySem.W.callWith_K (h₀ := X.base) I.ok.mod.kin M.kp (thn (ha.run pos pins s σ H _ I h) ?_) he hpl
  rintro us s1 ⟨vs, H1, J, r, q⟩
  refine ⟨J.kIn, ?_⟩
  have hq := q (s1.heap.objs.size + 1) s1.heap.objs.size (J.hok.fresh (Nat.le_succ _)) (J.hok.fresh (Nat.le_refl _)) (Nat.ne_of_lt (Nat.lt_succ_self _))
  have J2 := Inv.made (C := a) J
  have r2 : Vals (V.ref (s1.heap.objs.size + 1) :: vs) (Value.ref (s1.heap.objs.size + 1) :: us) := .cons rfl r
  have hl : (Value.ref (s1.heap.objs.size + 1) :: us).length = ps.length := by rw [← r2.length]; exact F.len _ _ _ _ hq
  have bi := hb { s1 with heap := (s1.heap.push PySem.W.emptyDict).push (PySem.W.instObj a s1.heap.objs.size) } (Value.ref (s1.heap.objs.size + 1) :: us) J2.kIn (by rw [List.append_nil]; exact hl)
  rw [List.append_nil] at bi
  refine wpAny_call (make_map (f := addr) J.kIn M.makes M.init (beq_iff_eq.mp M.fn) (codeAny_mono (F.run _ X.stack _ _ ⟨Value.ref (s1.heap.objs.size + 1) :: us, []⟩ (Value.ref (s1.heap.objs.size + 1) :: us) _ _ (E σ) (hr.make a us []) (guards_make.trans gd) (J2.env0.make a us []) bi r2 hq) fun res s' hq' => ?_))
  match res, hq' with
  | .error e, hq' => exact hx σ pins _ _ e s' J2 hq'
  | .ok (.ret u), hq' =>
    obtain ⟨v, H', J3, rv, ev, q3⟩ := J2.after hq'
    subst ev
    exact ⟨rv, ⟨V.ref (s1.heap.objs.size + 1), H', J3, rfl, q3⟩⟩
  | .ok .next, hq' => exact hq'.elim
  | .ok .brk, hq' => exact hq'.elim
  | .ok .cont, hq' => exact hq'.elim
theorem d_new {c : Str} {p pos : Pos} {e : Expr} {es : List Expr} {evs : Rho → M (List Vl)} (tk : Takes X Wx) (k : NCal X C c (P.fn (mkey c "__init__"))) (hg : Gl X c) (ha : PAd X C (exW X.K C Wx) (e :: es) evs) (hdb : (c == ("__debug__" : Str)) = false)
    (he : starEach (e :: es) X.env = (false, eval e X.env) :: starEach es X.env) (hpl : (backTo pos (starEach es X.env)).any (·.1) = false) : PEd X C (exW X.K C Wx) (.Call (.Name c p) (e :: es) [] pos) (fun ρ => bnd (evs ρ) (newV P c)) := by
  obtain ⟨a, addr, fd, ps, kk, hca, hm, M, F, hr, gd, hb⟩ := k.ex
  refine PE.weak (pe_makeG (E := WE Wx) M F hr gd hg hm hb (passAt tk) ha hdb he hpl) fun σ H Q ⟨W, S, ρ, s, r, q0⟩ => ?_
  refine dA.one s r q0 fun xs S1 W1 H1 vs l1 s1 r1 rxs q => fun x dx hx hdx hne => ?_
  obtain ⟨t2, s2⟩ := s1.beside (.own x) hdx
  have hx2 : upd H1 dx (.own x) x = none := by rw [upd_ne (fun z => hne z.symm)]; exact hx
  obtain ⟨t3, s3⟩ := s2.alloc (o := .ins c []) (ho := .ins a dx []) hx2 ⟨a, dx, [], rfl, hca, .nil⟩
  have t := t2.trans t3
  have q := Run.later t q
  refine ⟨_, _, .loc S1.length :: xs, s3, .cons ⟨by show S1.length < W1.n + 1; rw [s1.len]; exact Nat.lt_succ_self _, by show _ = V.ref (if S1.length = W1.n then x else _); rw [if_pos s1.len.symm]⟩ (rxs.mono t.le), ?_⟩
  unfold newV at q
  refine Run.bnd q fun y S4 W4 H4 v4 t4 s4 ry q => ?_
  cases y with
  | d d =>
    cases d with
    | none =>
      obtain ⟨hz, _⟩ := ry
      cases hz
      refine ⟨rfl, Run.now s4 q ?_⟩
      have hlt : S1.length < W1.n + 1 := by rw [s1.len]; exact Nat.lt_succ_self _
      refine ⟨Nat.lt_of_lt_of_le hlt t4.le.n, ?_⟩
      rw [t4.le.f _ hlt]
      show _ = V.ref (if S1.length = W1.n then x else _)
      rw [if_pos s1.len.symm]
    | _ => exact q.elim
  | _ => exact q.elim
end
end DL

namespace DL
open PySem PySem.Spec PyProof.Rows L2
/-! ### statements -/
inductive FlV | nx (σ : L2.St) | rt (x : V) | ex (z : Hp) (σ : L2.St) (c : Str) (fs : List (Str × PyData))
def RF (K : PySem.W.Frag) (W : Wd) : Fl → FlV → Prop
  | .nx ρ, .nx σ => RE K W ρ σ
  | .rt a, .rt x => RV K W a x
  | .ex c fs ρ, .ex z σ c' fs' => z = W.z ∧ c' = c ∧ fs' = fs ∧ RE K W ρ σ
  | _, _ => False
def QD (K : PySem.W.Frag) (C : Ctx) (Wx : WX) (D : Ends) : FlV → Hp → Prop
  | .nx σ, H => D.nx σ H
  | .rt x, H => D.rt x H
  | .ex z σ c fs, H => ∀ cls d, XR K C z c fs H cls d → WE Wx σ cls d H
abbrev exNv : XD := fun _ _ _ _ _ => False
def dS (K : PySem.W.Frag) (C : Ctx) (Wx : WX) (ev : Rho → M Fl) : TS := fun D σ H => ∃ W S ρ, SR K C W S H ∧ RE K W ρ σ ∧ Run K C exNv (RF K) (ev ρ S) W S H (QD K C Wx D)
abbrev PSd (X : Cx) (C : Ctx) (Wx : WX) (x : Stmt) (ev : Rho → M Fl) : Prop := PS X x (dS X.K C Wx ev)
abbrev PSsd (X : Cx) (C : Ctx) (Wx : WX) (x : List Stmt) (ev : Rho → M Fl) : Prop := PSs X x (dS X.K C Wx ev)
section
variable {K : PySem.W.Frag} {C : Ctx} {Wx : WX}
theorem catch_run {m : M Fl} {W : Wd} {S : Store} {H : Hp} {ρ : Rho} {σ : L2.St} {D : Ends} (r : RE K W ρ σ) (h : Run K C exNv (RF K) (catch_ ρ m S) W S H (QD K C Wx D)) : Run K C (exW K C Wx σ) (RF K) (m S) W S H (QD K C Wx D) := by
  unfold catch_ at h
  cases e : m S with
  | ok a S' => simp only [e] at h; exact h
  | ex c fs S' =>
    simp only [e] at h
    exact fun W' H' t s => h W' H' (.ex W'.z σ c fs) t s ⟨rfl, rfl, rfl, r.mono t.le⟩
  | bad => simp only [e] at h; exact h
theorem rf_nx {W : Wd} {ρ : Rho} {σ : L2.St} (r : RE K W ρ σ) : RF K W (.nx ρ) (.nx σ) := r
variable {X : Cx} {C : Ctx} {Wx : WX}
theorem setSub_rel {C : Ctx} : True := True.intro
/-- o[i] = v -/
def rSb (K : PySem.W.Frag) (C : Ctx) : TSet := fun o i v H Q => ∃ W S x y a, SR K C W S H ∧ RV K W x o ∧ RV K W y i ∧ RV K W a v ∧ ∃ S', setSub x y a S = .ok () S' ∧ ∀ W' H', Tr W S H W' S' H' → SR K C W' S' H' → Q H'
theorem putK_rel {W : Wd} {k : Key} {a : Vl} {v : V} (rv : RV K W a v) : ∀ {kvs : List (Key × Vl)} {kvs' : List (Key × V)}, Paired (fun (p : Key × Vl) (q : Key × V) => p.1 = q.1 ∧ RV K W p.2 q.2) kvs kvs' →
    Paired (fun (p : Key × Vl) (q : Key × V) => p.1 = q.1 ∧ RV K W p.2 q.2) (if (kvs.any fun kv => decide (kv.1 = k)) = true then kvs.map (fun kv => if kv.1 = k then (kv.1, a) else kv) else kvs ++ [(k, a)]) (putK kvs' k v) := by
  intro kvs kvs' h
  have e : (kvs.any fun kv => decide (kv.1 = k)) = (kvs'.any fun kv => decide (kv.1 = k)) := by
    induction h with
    | nil => rfl
    | cons h t ih => simp only [List.any_cons, ih, h.1]
  unfold putK
  rw [e]
  by_cases c : (kvs'.any fun kv => decide (kv.1 = k)) = true
  · rw [if_pos c, if_pos c]
    clear c e
    induction h with
    | nil => exact .nil
    | @cons p q _ _ h t ih =>
      refine .cons ?_ ih
      by_cases hk : p.1 = k
      · dsimp only; rw [if_pos hk, if_pos (h.1 ▸ hk)]; exact ⟨h.1, rv⟩
      · dsimp only; rw [if_neg hk, if_neg (h.1 ▸ hk)]; exact h
  · rw [if_neg c, if_neg c]
    clear c e
    induction h with
    | nil => exact .cons ⟨rfl, rv⟩ .nil
    | cons h t ih => exact .cons h ih
theorem rvs_set {W : Wd} {a : Vl} {v : V} (rv : RV K W a v) : ∀ {xs : List Vl} {vs : List V} (j : Nat), RVs K W xs vs → RVs K W (xs.set j a) (vs.set j v)
  | _, _, _, .nil => .nil
  | _, _, 0, .cons h t => .cons rv t
  | _, _, j + 1, .cons h t => .cons h (rvs_set rv j t)
theorem paired_len {α β : Type} {R : α → β → Prop} : ∀ {xs : List α} {ys : List β}, Paired R xs ys → xs.length = ys.length
  | _, _, .nil => rfl
  | _, _, .cons _ t => by simp [paired_len t]
theorem set_sb (hw : C.w = X.w) (hu : X.A.units + 66 < cLine) : PSet X (rSb X.K C) := by
  intro pins s σ H o i v ov iv u Q I ro ri rv h
  obtain ⟨W, S, x, y, a, sr, rx, ry, ra, S', e, k⟩ := h
  cases x with
  | loc n =>
    cases es : S[n]? with
    | none => simp only [setSub, es] at e; cases e
    | some ob =>
      cases ob with
      | lst xs =>
        simp only [setSub, es] at e
        cases y with
        | d yy =>
          cases yy with
          | int kk =>
            dsimp only at e
            cases ej : ixN xs.length kk with
            | none => simp only [ej] at e; cases e
            | some j =>
              simp only [ej] at e
              cases e
              obtain ⟨g1, ho, g2, vs, rfl, g3⟩ := sr.at_ _ _ es (fun z => by cases z)
              obtain ⟨t3, s3⟩ := sr.write (o' := .lst (xs.set j a)) (ho := .lst (vs.set j v)) es (fun z => by cases z) (fun z => by cases z) ⟨_, rfl, rvs_set ra j g3⟩
              refine set_list pins s σ H o i v ov iv u Q I ro ri rv ⟨_, vs, kk, j, rx.2, ?_, g2, by rw [← paired_len g3]; exact ej, k _ _ t3 s3⟩
              obtain ⟨ry, _⟩ := ry
              cases ry; rfl
          | _ => cases e
        | _ => cases e
      | dk kvs =>
        simp only [setSub, es] at e
        cases y with
        | d yy =>
          dsimp only at e
          cases ek : keyOf yy with
          | none => simp only [ek] at e; cases e
          | some kk =>
            simp only [ek] at e
            by_cases hl : kvs.length < sizeLine
            · rw [if_pos hl] at e
              cases e
              obtain ⟨g1, ho, g2, kvs', rfl, g3⟩ := sr.at_ _ _ es (fun z => by cases z)
              obtain ⟨t3, s3⟩ := sr.write (o' := .dk _) (ho := .dK (putK kvs' kk v)) es (fun z => by cases z) (fun z => by cases z) ⟨_, rfl, putK_rel ra g3⟩
              have ekv := key_v ry ek
              subst ekv
              refine set_dict (by omega) pins s σ H o _ v ov iv u Q I ro ri rv ⟨_, _, rx.2, DPut.k g2 (by rw [← paired_len g3]; exact hl), k _ _ t3 s3⟩
            · rw [if_neg hl] at e; cases e
        | _ => cases e
      | dd m kvs =>
        simp only [setSub, es] at e
        cases y with
        | d yy =>
          dsimp only at e
          cases ek : dataKey yy with
          | none => simp only [ek] at e; cases e
          | some kk =>
            cases kk with
            | tup ks =>
              simp only [ek] at e
              by_cases hc : m = n ∧ (NestedKey.tup ks).depth ≤ 8 ∧ kvs.length < sizeLine
              · rw [if_pos hc] at e
                cases e
                obtain ⟨hm, h8, hl⟩ := hc
                obtain ⟨_, eo⟩ := rx
                subst eo
                cases (show ov = Value.ref _ from ro)
                refine set_dd hw hu I sr es hm ek h8 hl ry ri ra rv fun s' W' H' I' t s2 => ⟨H', I', ?_⟩
                exact k W' H' t s2
              · rw [if_neg hc] at e; cases e
            | _ => simp only [ek] at e; cases e
        | _ => cases e
      | _ => simp only [setSub, es] at e; cases e
  | _ => cases e
theorem setSub_ex {x y a : Vl} {S : Store} {c : Str} {fs : List (Str × PyData)} {S' : Store} : setSub x y a S ≠ .ex c fs S' := by
  intro e
  unfold setSub at e
  split at e
  · split at e
    · split at e
      · split at e
        · cases e
        · cases e
      · cases e
    · split at e
      · split at e
        · split at e
          · cases e
          · cases e
        · cases e
      · cases e
    · split at e
      · split at e
        · split at e
          · cases e
          · cases e
        · cases e
      · cases e
    · cases e
  · cases e
/-! names and tuples -/
theorem s_asg {tg e : Expr} {pos : Pos} {t : Tg} {ev : Rho → M Vl} (he : PEd X C (exW X.K C Wx) e ev) (hg : PG X tg (gT X.K t)) (hs : swapsWithSole [tg] e pos.line X.env = pure false) (hw : swappedStores [tg] e X.env = pure none)
    (h1 : (assignEach [tg] X.env).map (·.2) = [assign tg X.env]) {P : Pg} : PSd X C Wx (.Assign [tg] e pos) (fun ρ => catch_ ρ (bnd (ev ρ) fun v => evTa P (.tg t) v ρ)) := by
  refine PS.weak (ps_asg he hg hs hw h1) fun D σ H ⟨W, S, ρ, s, r, q⟩ => ?_
  have q := catch_run r q
  refine dT.one s r q fun a S1 W1 H1 v l1 s1 r1 ra q => ?_
  unfold evTa ofO at q
  cases es : setTg t a ρ with
  | none => simp only [es] at q; exact q.elim
  | some ρ' =>
    simp only [es, Option.map] at q
    exact gT_run s1 t es r1 ra fun σ' r' _ => q _ _ (.nx σ') (Tr.refl s1) s1 r'
theorem s_set {x : Str} {e : Expr} {pos pos' : Pos} {i : Nat} {ev : Rho → M Vl} (hN : X.N.Nodup) (hi : X.N[i]? = some x) (hx : Loc X.env.scope x) (hf : X.fn x = true ∨ X.env.scope.names.lookup x = some .local) (he : PEd X C (exW X.K C Wx) e ev) (hs : swapsWith e (some (.Name x pos')) pos.line X.env = pure false) {P : Pg} :
    PSd X C Wx (.Assign [.Name x pos'] e pos) (fun ρ => catch_ ρ (bnd (ev ρ) fun v => evTa P (.tg (.nm i)) v ρ)) := by
  refine PS.weak (ps_set hN hi hx he hs hf) fun D σ H ⟨W, S, ρ, s, r, q⟩ => ?_
  have q := catch_run r q
  refine dT.one s r q fun a S1 W1 H1 v l1 s1 r1 ra q => ?_
  unfold evTa ofO at q
  cases es : setTg (.nm i) a ρ with
  | none => simp only [es] at q; exact q.elim
  | some ρ' =>
    simp only [es, Option.map] at q
    exact gT_run s1 (.nm i) es r1 ra fun σ' r' _ => q _ _ (.nx σ') (Tr.refl s1) s1 r'
theorem s_sub {o i e : Expr} {pos spos : Pos} {ev : Rho → M Vl} {P : Pg} {eo ei : E} (hwc : C.w = X.w) (hu : X.A.units + 66 < cLine) (he : PEd X C (exW X.K C Wx) e ev) (ho : PEd X C (exW X.K C Wx) o (evE P eo)) (hi : PEd X C (exW X.K C Wx) i (evE P ei))
    (ha : ∀ v, assign (.Subscript o i spos) X.env v = (do
      let ov ← holding [v] (eval o X.env)
      let iv ← holding [v, ov] (eval i X.env)
      standAt spos
      holding [v, ov, iv] (setItem ov iv v)
      release [v, ov, iv] [])) (hs : swapsWithSole [.Subscript o i spos] e pos.line X.env = pure false) (hw : swappedStores [.Subscript o i spos] e X.env = pure none)
    (h1 : (assignEach [.Subscript o i spos] X.env).map (·.2) = [assign (.Subscript o i spos) X.env]) : PSd X C Wx (.Assign [.Subscript o i spos] e pos) (fun ρ => catch_ ρ (bnd (ev ρ) fun v => evTa P (.sub eo ei) v ρ)) := by
  refine PS.weak (ps_asg he (pg_sub ho hi (set_sb (C := C) hwc hu) ha) hs hw h1) fun D σ H ⟨W, S, ρ, s, r, q⟩ => ?_
  have q := catch_run r q
  refine dT.one s r q fun a S1 W1 H1 v l1 s1 r1 ra q => ?_
  unfold evTa at q
  refine dT.one s1 r1 q fun x S2 W2 H2 vx l2 s2 r2 rx q => ?_
  refine dT.one s2 r2 q fun y S3 W3 H3 vy l3 s3 r3 ry q => ?_
  refine ⟨W3, S3, x, y, a, s3, rx.mono l3, ry, (ra.mono l2).mono l3, ?_⟩
  unfold bnd at q
  cases eq : setSub x y a S3 with
  | ok u S4 =>
    simp only [eq] at q
    exact ⟨S4, rfl, fun W' H' t s' => q _ _ (.nx σ) t s' (r3.mono t.le)⟩
  | ex c fs S4 => exact absurd eq setSub_ex
  | bad => simp only [eq] at q; exact q.elim
theorem s_par2 {i j : Nat} {x y : Str} {a b : Expr} {px py pt pos : Pos} {kt k2 pt2} {evs : Rho → M (List Vl)} (hc : X.calm = true) (hN : X.N.Nodup) (hi : X.N[i]? = some x) (hj : X.N[j]? = some y) (hij : i ≠ j)
    (hx : X.env.scope.names.lookup x = some .local) (hy : X.env.scope.names.lookup y = some .local) (ha : PAd X C (exW X.K C Wx) [a, b] evs)
    (hw : swappedStores [.Tuple [.Name x px, .Name y py] kt pt] (.Tuple [a, b] k2 pt2) X.env = pure (some [x, y])) :
    PSd X C Wx (.Assign [.Tuple [.Name x px, .Name y py] kt pt] (.Tuple [a, b] k2 pt2) pos) (fun ρ => catch_ ρ (bnd (evs ρ) fun vs => ofO ((setAll [i, j] vs ρ).map .nx))) := by
  refine PS.weak (ps_par hc hN hi hj hij hx hy ha hw) fun D σ H ⟨W, S, ρ, s, r, q⟩ => ?_
  have q := catch_run r q
  refine dA.one s r q fun as S1 W1 H1 vs l1 s1 r1 ra q => ?_
  unfold ofO at q
  cases ra with
  | nil => exact q.elim
  | cons h1 ra =>
    cases ra with
    | nil => exact q.elim
    | cons h2 ra =>
      cases ra with
      | nil => exact ⟨_, _, rfl, q _ _ (.nx _) (Tr.refl s1) s1 (RE.set _ (RE.set _ r1 h1) h2)⟩
      | cons h3 ra => exact q.elim
theorem s_par3 {i j l : Nat} {x y z : Str} {a b c : Expr} {px py pz pt pos : Pos} {kt k2 pt2} {evs : Rho → M (List Vl)} (hc : X.calm = true) (hN : X.N.Nodup) (hi : X.N[i]? = some x) (hj : X.N[j]? = some y) (hl : X.N[l]? = some z) (hij : i ≠ j) (hil : i ≠ l) (hjl : j ≠ l)
    (hx : X.env.scope.names.lookup x = some .local) (hy : X.env.scope.names.lookup y = some .local) (hz : X.env.scope.names.lookup z = some .local) (ha : PAd X C (exW X.K C Wx) [a, b, c] evs)
    (hw : swappedStores [.Tuple [.Name x px, .Name y py, .Name z pz] kt pt] (.Tuple [a, b, c] k2 pt2) X.env = pure (some [x, y, z])) :
    PSd X C Wx (.Assign [.Tuple [.Name x px, .Name y py, .Name z pz] kt pt] (.Tuple [a, b, c] k2 pt2) pos) (fun ρ => catch_ ρ (bnd (evs ρ) fun vs => ofO ((setAll [i, j, l] vs ρ).map .nx))) := by
  refine PS.weak (ps_par3 hc hN hi hj hl hij hil hjl hx hy hz ha hw) fun D σ H ⟨W, S, ρ, s, r, q⟩ => ?_
  have q := catch_run r q
  refine dA.one s r q fun as S1 W1 H1 vs l1 s1 r1 ra q => ?_
  unfold ofO at q
  cases ra with
  | nil => exact q.elim
  | cons h1 ra =>
    cases ra with
    | nil => exact q.elim
    | cons h2 ra =>
      cases ra with
      | nil => exact q.elim
      | cons h3 ra =>
        cases ra with
        | nil => exact ⟨_, _, _, rfl, q _ _ (.nx _) (Tr.refl s1) s1 (RE.set _ (RE.set _ (RE.set _ r1 h1) h2) h3)⟩
        | cons h4 ra => exact q.elim
theorem s_expr {e : Expr} {pos : Pos} {ev : Rho → M Vl} (he : PEd X C (exW X.K C Wx) e ev) (hs : swapsWith e none pos.line X.env = pure false) : PSd X C Wx (.Expr e pos) (fun ρ => catch_ ρ (bnd (ev ρ) fun _ => pur (.nx ρ))) := by
  refine PS.weak (ps_expr he hs) fun D σ H ⟨W, S, ρ, s, r, q⟩ => ?_
  have q := catch_run r q
  exact dT.one s r q fun a S1 W1 H1 v l1 s1 r1 ra q => q _ _ (.nx σ) (Tr.refl s1) s1 r1
theorem s_ret {e : Expr} {pos : Pos} {ev : Rho → M Vl} (he : PEd X C (exW X.K C Wx) e ev) : PSd X C Wx (.Return (some e) pos) (fun ρ => catch_ ρ (bnd (ev ρ) fun v => pur (.rt v))) := by
  refine PS.weak (ps_ret he) fun D σ H ⟨W, S, ρ, s, r, q⟩ => ?_
  have q := catch_run r q
  exact dT.one s r q fun a S1 W1 H1 v l1 s1 r1 ra q => q _ _ (.rt v) (Tr.refl s1) s1 ra
theorem s_retN {pos : Pos} : PSd X C Wx (.Return none pos) (fun ρ => pur (.rt (.d .none))) :=
  PS.weak ps_retN fun D σ H ⟨W, S, ρ, s, r, q⟩ => q _ _ (.rt .non) (Tr.refl s) s ⟨.non, rfl⟩
theorem s_nil : PSsd X C Wx [] (fun ρ => pur (.nx ρ)) := PSs.weak pss_nil fun D σ H ⟨W, S, ρ, s, r, q⟩ => q _ _ (.nx σ) (Tr.refl s) s r
theorem s_cons {x : Stmt} {xs : List Stmt} {ev evr : Rho → M Fl} (h1 : PSd X C Wx x ev) (h2 : PSsd X C Wx xs evr) : PSsd X C Wx (x :: xs) (fun ρ => bnd (ev ρ) fun o => match o with
    | .nx ρ' => evr ρ'
    | o => pur o) := by
  refine PSs.weak (pss_cons h1 h2) fun D σ H ⟨W, S, ρ, s, r, q⟩ => ⟨W, S, ρ, s, r, Run.bnd q fun a S1 W1 H1 v t1 s1 ra q => ?_⟩
  cases a with
  | nx ρ' =>
    cases v with
    | nx σ' => exact ⟨W1, S1, ρ', s1, ra, q⟩
    | _ => exact ra.elim
  | rt a =>
    cases v with
    | rt x => exact q _ _ (.rt x) (Tr.refl s1) s1 ra
    | _ => exact ra.elim
  | ex c fs ρ' =>
    cases v with
    | ex z σ' c' fs' => exact q _ _ (.ex z σ' c' fs') (Tr.refl s1) s1 ra
    | _ => exact ra.elim
/-- the same, the statement passed over -/
theorem s_skip {x : Stmt} {xs : List Stmt} {evr : Rho → M Fl} (h1 : PS X x tNext) (h2 : PSsd X C Wx xs evr) : PSsd X C Wx (x :: xs) evr :=
  PSs.weak (pss_cons h1 h2) fun D σ H h => h
theorem s_ife {c : Expr} {p q : List Stmt} {pos : Pos} {evb : Rho → M Bool} {ea eb : Rho → M Fl} (hc : PTd X C (exW X.K C Wx) c evb) (ha : PSsd X C Wx p ea) (hb : PSsd X C Wx q eb) : PSd X C Wx (.If c p q pos) (fun ρ => bnd (catch_ ρ (bnd (evb ρ) fun k => if k = true then pur (.nx ρ) else pur (.rt (.d .none)))) fun o => match o with
    | .nx _ => ea ρ
    | .rt _ => eb ρ
    | o => pur o) := by
  refine PS.weak (ps_if hc ha hb) fun D σ H ⟨W, S, ρ, s, r, q⟩ => ⟨W, S, ρ, s, r, ?_⟩
  unfold bnd catch_ at q
  cases e : evb ρ S with
  | ok k S1 =>
    simp only [bnd, e] at q
    intro W1 H1 v t1 s1 rb
    cases rb
    refine ⟨W1, S1, ρ, s1, r.mono t1.le, ?_⟩ |> fun (z : dS X.K C Wx (if k = true then ea else eb) D σ H1) => by
      cases k with
      | true => exact z
      | false => exact z
    cases k with
    | true => exact Run.later t1 q
    | false => exact Run.later t1 q
  | ex c fs S1 =>
    simp only [bnd, e] at q
    exact fun W' H' t s' => q W' H' (.ex W'.z σ c fs) t s' ⟨rfl, rfl, rfl, r.mono t.le⟩
  | bad => simp only [bnd, e] at q; exact q.elim
theorem forGo_nil {s : Src} {f : Vl → Rho → M Fl} {ρ : Rho} : forGo s f [] ρ = bnd (guard s) fun _ => pur (.nx ρ) := rfl
theorem forGo_cons {s : Src} {f : Vl → Rho → M Fl} {x : Vl} {r : List Vl} {ρ : Rho} : forGo s f (x :: r) ρ = bnd (guard s) fun _ => bnd (f x ρ) fun o => match o with
    | .nx ρ' => forGo s f r ρ'
    | o => pur o := rfl
theorem run_guard {α β : Type} {Ex : XD} {RA : Wd → α → β → Prop} {s : Src} {g : Unit → M α} {W : Wd} {S : Store} {H : Hp} {Q : β → Hp → Prop} (h : Run K C Ex RA (bnd (guard s) g S) W S H Q) : s.ok S ∧ Run K C Ex RA (g () S) W S H Q := by
  unfold bnd guard at h
  by_cases hs : s.ok S
  · rw [if_pos hs] at h; exact ⟨hs, h⟩
  · rw [if_neg hs] at h; exact h.elim
theorem s_for {tg iter : Expr} {body : List Stmt} {pos : Pos} {t : Tg} {evi : Rho → M Src} {eb : Rho → M Fl} (hp : PassesOwn (model X.prog X.w) X.A X.env X.xe) (hc : X.calm = true) (hi : PId X C (exW X.K C Wx) tg iter evi) (hg : PG X tg (gT X.K t)) (hb : PSsd X C Wx body eb)
    (hs : ∀ x, foldedSetIterable iter X.env x = pure x) : PSd X C Wx (.For tg iter body [] pos) (fun ρ => fun S => match evi ρ S with
    | .ok s S1 => forGo s (fun x ρ => match setTg t x ρ with
      | none => bad
      | some ρ1 => eb ρ1) s.xs ρ S1
    | .ex c fs S1 => .ok (.ex c fs ρ) S1
    | .bad => .bad) := by
  refine PS.weak (ps_for hp hc hi hg hb hs) fun D σ H ⟨W, S, ρ, s, r, q⟩ => ⟨W, S, ρ, s, r, ?_⟩
  (try dsimp only at q)
  cases e : evi ρ S with
  | ex c fs S1 =>
    simp only [e] at q
    exact fun W' H' t s' => q W' H' (.ex W'.z σ c fs) t s' ⟨rfl, rfl, rfl, r.mono t.le⟩
  | bad => simp only [e] at q; exact q.elim
  | ok src S1 =>
    simp only [e] at q
    intro W1 H1 J t1 s1 jok
    refine ⟨fun i n σ' H' => n = src.xs.length - i ∧ i ≤ src.xs.length ∧ ∃ W' S' ρ', Le W1 W' ∧ SR X.K C W' S' H' ∧ RE X.K W' ρ' σ' ∧ Run X.K C exNv (RF X.K) (forGo src (fun x ρ => match setTg t x ρ with
      | none => bad
      | some ρ1 => eb ρ1) (src.xs.drop i) ρ' S') W' S' H' (QD X.K C Wx D),
      ⟨src.xs.length, by simp, Nat.zero_le _, W1, S1, ρ, Le.refl _, s1, r.mono t1.le, by rw [List.drop_zero]; exact Run.later t1 q⟩, fun i n σ' H' hW => ?_⟩
    obtain ⟨rfl, hi, W', S', ρ', l', s', r', q'⟩ := hW
    by_cases hlt : i < src.xs.length
    · right
      have hx : src.xs[i]? = some src.xs[i] := List.getElem?_eq_getElem hlt
      rw [List.drop_eq_getElem_cons hlt, forGo_cons] at q'
      obtain ⟨hok, q'⟩ := run_guard q'
      obtain ⟨jgo, jy⟩ := jok.go i W' S' H' l' s' hok _ hx
      refine ⟨jgo, fun σ'' H'' => ∃ W'' S'' ρ'', Le W1 W'' ∧ SR X.K C W'' S'' H'' ∧ RE X.K W'' ρ'' σ'' ∧ Run X.K C exNv (RF X.K) (forGo src (fun x ρ => match setTg t x ρ with
        | none => bad
        | some ρ1 => eb ρ1) (src.xs.drop (i + 1)) ρ'' S'') W'' S'' H'' (QD X.K C Wx D), fun σ'' H'' hN => ⟨src.xs.length - (i + 1), by omega, rfl, hlt, hN⟩, fun x H'' y => ?_⟩
      obtain ⟨W2, t2, s2, rx⟩ := jy x H'' y
      have q' := Run.later t2 q'
      cases est : setTg t src.xs[i] ρ' with
      | none =>
        unfold bnd at q'
        simp only [est, bad] at q'
        exact q'.elim
      | some ρ1 =>
        simp only [est] at q'
        refine gT_run s2 t est (r'.mono t2.le) rx fun σ2 r2 hw => ⟨W2, S', ρ1, s2, r2, Run.bnd q' fun a S3 W3 H3 v t3 s3 ra q => ?_⟩
        cases a with
        | nx ρ2 =>
          cases v with
          | nx σ3 => exact ⟨W3, S3, ρ2, (l'.trans t2.le).trans t3.le, s3, ra, q⟩
          | _ => exact ra.elim
        | rt a =>
          cases v with
          | rt x => exact q _ _ (.rt x) (Tr.refl s3) s3 ra
          | _ => exact ra.elim
        | ex c fs ρ2 =>
          cases v with
          | ex z σ3 c' fs' => exact q _ _ (.ex z σ3 c' fs') (Tr.refl s3) s3 ra
          | _ => exact ra.elim
    · left
      have ei : i = src.xs.length := by omega
      subst ei
      rw [List.drop_length, forGo_nil] at q'
      obtain ⟨hok, q'⟩ := run_guard q'
      exact ⟨jok.stop W' S' H' l' s' hok, q' _ _ (.nx σ') (Tr.refl s') s' r'⟩
theorem whileN_succ {c : Rho → M Bool} {b : Rho → M Fl} {n : Nat} {ρ : Rho} {S : Store} : whileN c b (n + 1) ρ S = match catch_ ρ (bnd (c ρ) fun k => if k = true then pur (.nx ρ) else pur (.rt (.d .none))) S with
    | .ok (.nx _) S1 => (match b ρ S1 with
      | .ok (.nx ρ') S2 => whileN c b n ρ' S2
      | r => some r)
    | .ok (.rt _) S1 => some (.ok (.nx ρ) S1)
    | r => some r := rfl
theorem whileN_more {c : Rho → M Bool} {b : Rho → M Fl} : ∀ {n m : Nat} {ρ : Rho} {S : Store} {r r' : Rs Fl}, whileN c b n ρ S = some r → whileN c b m ρ S = some r' → r = r'
  | 0, _, _, _, _, _, h, _ => by cases h
  | _ + 1, 0, _, _, _, _, _, h => by cases h
  | n + 1, m + 1, ρ, S, r, r', h, h' => by
    rw [whileN_succ] at h h'
    cases e : catch_ ρ (bnd (c ρ) fun k => if k = true then pur (.nx ρ) else pur (.rt (.d .none))) S with
    | ok a S1 =>
      simp only [e] at h h'
      cases a with
      | nx _ =>
        dsimp only at h h'
        cases e2 : b ρ S1 with
        | ok a2 S2 =>
          simp only [e2] at h h'
          cases a2 with
          | nx ρ' => exact whileN_more h h'
          | _ => exact Option.some.inj (h.symm.trans h')
        | ex c fs S2 => simp only [e2] at h h'; exact Option.some.inj (h.symm.trans h')
        | bad => simp only [e2] at h h'; exact Option.some.inj (h.symm.trans h')
      | rt _ => exact Option.some.inj (h.symm.trans h')
      | ex _ _ _ => exact Option.some.inj (h.symm.trans h')
    | ex c fs S1 => simp only [e] at h h'; exact Option.some.inj (h.symm.trans h')
    | bad => simp only [e] at h h'; exact Option.some.inj (h.symm.trans h')
theorem whileV_of {c : Rho → M Bool} {b : Rho → M Fl} {n : Nat} {ρ : Rho} {S : Store} {r : Rs Fl} (h : whileN c b n ρ S = some r) : whileV c b ρ S = r := by
  have hx : ∃ r, ∃ n, whileN c b n ρ S = some r := ⟨r, n, h⟩
  unfold whileV
  rw [dif_pos hx]
  obtain ⟨m, hm⟩ := hx.choose_spec
  exact whileN_more hm h
theorem s_while {c : Expr} {body : List Stmt} {pos : Pos} {evb : Rho → M Bool} {eb : Rho → M Fl} (hp : PassesOwn (model X.prog X.w) X.A X.env X.xe) (hc : PTd X C (exW X.K C Wx) c evb) (hb : PSsd X C Wx body eb) : PSd X C Wx (.While c body [] pos) (fun ρ => whileV evb eb ρ) := by
  refine PS.weak (ps_while hp hc hb) fun D σ H ⟨W, S, ρ, s, r, q⟩ => ?_
  by_cases hx : ∃ r, ∃ n, whileN evb eb n ρ S = some r
  · obtain ⟨r0, n0, h0⟩ := hx
    (try dsimp only at q)
    rw [show whileV evb eb ρ S = r0 from whileV_of h0] at q
    refine ⟨fun m σ H => ∃ W S ρ r0, SR X.K C W S H ∧ RE X.K W ρ σ ∧ whileN evb eb m ρ S = some r0 ∧ Run X.K C exNv (RF X.K) r0 W S H (QD X.K C Wx D), ⟨n0, W, S, ρ, r0, s, r, h0, q⟩, ?_⟩
    clear q h0 r s ρ S W n0 r0
    rintro m σ H ⟨W, S, ρ, r0, s, r, h, q⟩
    cases m with
    | zero => cases h
    | succ m =>
      rw [whileN_succ] at h
      refine ⟨W, S, ρ, s, r, ?_⟩
      cases e : evb ρ S with
      | ok k S1 =>
        intro W1 H1 v t1 s1 rb
        cases rb
        cases k with
        | true =>
          rw [if_pos rfl]
          simp only [catch_, bnd, e, Rs.bind, if_true, pur] at h
          refine ⟨fun σ' H' => ∃ W S ρ r0, SR X.K C W S H' ∧ RE X.K W ρ σ' ∧ whileN evb eb m ρ S = some r0 ∧ Run X.K C exNv (RF X.K) r0 W S H' (QD X.K C Wx D), fun σ' H' hN => ⟨m, Nat.lt_succ_self _, hN⟩, ?_⟩
          refine ⟨W1, S1, ρ, s1, r.mono t1.le, ?_⟩
          cases e2 : eb ρ S1 with
          | ok a S2 =>
            simp only [e2] at h
            intro W2 H2 v t2 s2 ra
            cases a with
            | nx ρ' =>
              cases v with
              | nx σ' => exact ⟨W2, S2, ρ', r0, s2, ra, h, Run.later (t1.trans t2) q⟩
              | _ => exact ra.elim
            | rt a =>
              cases v with
              | rt x =>
                cases h
                exact q _ _ (.rt x) (t1.trans t2) s2 ra
              | _ => exact ra.elim
            | ex c fs ρ2 =>
              cases v with
              | ex z σ3 c' fs' => cases h; exact q _ _ (.ex z σ3 c' fs') (t1.trans t2) s2 ra
              | _ => exact ra.elim
          | ex c fs S2 =>
            simp only [e2] at h
            cases h
            exact fun W' H' t s' => q W' H' (t1.trans t) s'
          | bad =>
            simp only [e2] at h
            cases h
            exact q
        | false =>
          rw [if_neg Bool.false_ne_true]
          simp only [catch_, bnd, e, Rs.bind, if_neg Bool.false_ne_true, pur] at h
          cases h
          exact q _ _ (.nx σ) t1 s1 (r.mono t1.le)
      | ex c fs S1 =>
        simp only [catch_, bnd, e, Rs.bind] at h
        cases h
        exact fun W' H' t s' => q W' H' (.ex W'.z σ c fs) t s' ⟨rfl, rfl, rfl, r.mono t.le⟩
      | bad =>
        simp only [catch_, bnd, e, Rs.bind] at h
        cases h
        exact q
  · (try dsimp only at q)
    unfold whileV at q
    rw [dif_neg hx] at q
    exact q.elim
end
end DL

namespace DL
open PySem PySem.Spec PyProof.Rows L2
section
variable {X : Cx} {C : Ctx} {Wx : WX}
/-- o.f = e -/
theorem s_fld {o e : Expr} {c f : Str} {pos pos' : Pos} {ev : Rho → M Vl} {P : Pg} {eo : E} (at_ : AttOk X C c f) (ho : PEd X C (exW X.K C Wx) o (evE P eo)) (he : PEd X C (exW X.K C Wx) e ev) (hs : swapsWith e (some (.Attribute o f pos')) pos.line X.env = pure false) :
    PSd X C Wx (.Assign [.Attribute o f pos'] e pos) (fun ρ => catch_ ρ (bnd (ev ρ) fun v => evTa P (.fld c eo f) v ρ)) := by
  refine PS.weak (ps_fld ho he hs) fun D σ H ⟨W, S, ρ, s, r, q0⟩ => ?_
  have q0 := catch_run r q0
  obtain ⟨a, ha, hc, hn⟩ := at_
  refine dT.one s r q0 fun y S1 W1 H1 v l1 s1 r1 ry q => ?_
  unfold evTa at q
  refine dT.one s1 r1 q fun x S2 W2 H2 u l2 s2 r2 rx q2 => ?_
  cases x with
  | loc n =>
    obtain ⟨_, exv⟩ := rx
    subst exv
    cases es : S2[n]? with
    | none => simp only [bnd, setFld, es] at q2; exact q2.elim
    | some ob =>
      cases ob with
      | ins c' fs =>
        by_cases hcc : c' = c ∧ fs.length < 900
        · obtain ⟨rfl, hl⟩ := hcc
          simp only [bnd, setFld, es, if_pos (And.intro trivial hl)] at q2
          obtain ⟨a', dx, gs, ha', hp, rel⟩ := ins_at s2 es
          rw [ha] at ha'
          cases ha'
          have hgl : gs.length < 1000 := by rw [← paired_len rel]; omega
          refine ⟨_, a, dx, gs, rfl, hp, hc, hn, hgl, ?_⟩
          obtain ⟨t3, s3⟩ := s2.write (o' := .ins c' (putF fs f y)) (ho := .ins a dx (L2.putF f v gs)) es (fun z => by cases z) (fun z => by cases z) ⟨a, dx, _, rfl, ha, putF_at (ry.mono l2) rel⟩
          exact q2 _ _ (.nx σ) t3 s3 (r2.mono t3.le)
        · simp only [bnd, setFld, es, if_neg hcc] at q2; exact q2.elim
      | _ => simp only [bnd, setFld, es] at q2; exact q2.elim
  | _ => exact q2.elim
end
end DL

namespace DL
open PySem PySem.Spec PyProof.Rows L2
theorem meth_eq {o : Expr} {es : List Expr} {m : Str} {ap cp : Pos} {env : Env} (hbase : attributeBase o m env (eval o env) = eval o env) (hfew : methodCallForm (es.length + ([] : List Keyword).length) (backTo cp (starEach es env)) (backToKw cp (keywordEach [] env)) = true) (hline : (ap.endLine == cp.line) = true) :
    eval (.Call (.Attribute o m ap) es [] cp) env = (do
      let ov ← eval o env
      standAt ap.atName
      let (f, first) ← holding [ov] (getMethod ov m (do return (← importBound o env).getD true))
      callWith cp f first (backTo cp (starEach es env)) (backToKw cp (keywordEach [] env))) := by
  have e1 : eval (.Call (.Attribute o m ap) es [] cp) env = (do
      let ov ← attributeBase o m env (eval o env)
      standAt ap.atName
      methodCall o m ap cp env ov (es.length + ([] : List Keyword).length) (backTo cp (starEach es env)) (backToKw cp (keywordEach [] env))) := rfl
  rw [e1, hbase]
  unfold methodCall
  rw [hfew]
  have e2 : methodCallPos true o env ap cp = pure cp := by
    unfold methodCallPos
    rw [hline]; rfl
  rw [e2]
  rfl
/-- no super() -/
def nSup : Expr → Bool
  | .Call (.Name _ _) [] [] _ => false
  | _ => true
theorem base_eq2 {o : Expr} {nm : Str} {env : Env} {w : Sem Value} (h : nSup o = true) : attributeBase o nm env w = w := by
  unfold attributeBase
  split
  · simp [nSup] at h
  · rfl
theorem few_ok {X : Cx} {es : List Expr} {cp : Pos} (hs : (backTo cp (starEach es X.env)).all (fun x => !x.1) = true) (hl : es.length < 20) : methodCallForm (es.length + ([] : List Keyword).length) (backTo cp (starEach es X.env)) (backToKw cp (keywordEach [] X.env)) = true := by
  unfold methodCallForm
  rw [hs]
  simp only [Bool.true_and, Bool.and_eq_true, decide_eq_true_eq]
  refine ⟨rfl, ?_⟩
  show es.length + 0 + 0 < 30
  omega
end DL

namespace RT
open PySem PySem.Spec PyProof.Rows
section
variable {prog : Program} {w : World} {A : Around} {s : Shared}
theorem dl_extend_rev {R : Result → Shared → Prop} {it l : Addr} {items : Array Value} (hh : A.handled = none) (hit : s.heap.IsRevIter it l ((items.size : Int) - 1)) (hl : s.heap.IsList l items) (hne : l ≠ it) (hn : items.size ≤ sizeLine) (S : Addr) (hSi : S ≠ it) (hSl : S ≠ l) (c₀ : Nat) (res : Value)
    (hS : s.heap.get? S = some { cls := .type "list", data := .seq #[] c₀ })
    (hR : ∀ h' tk acc' c', (∀ b o, b ≠ S → b ≠ it → s.heap.get? b = some o → h'.get? b = some o) → h'.get? S = some { cls := .type "list", dict := none, data := .seq acc' c', slots := #[] } →
      ItemsOf (fun i v => items[items.size - 1 - i]? = some v) acc' items.size → R (.ok (.ret res)) { s with heap := h', toks := tk }) :
    wpAny (model prog w) A.in1 (Builtin.List.listExtendWith (.ref S) (.ref it) res)
      (fun fin s' => match fin with | .done f => R (.ok f) s' | .again c' => c'.quiet = true ∧ codeAny (model prog w) A c' R s') (fun e s' => R (.error e) s') s := by
  have W := (Walks.listRev (prog := prog) (w := w) (A := A.in1) hh it l hne items).toS
  have hSf : S ∉ [it, l] := by simp only [List.mem_cons, List.not_mem_nil, or_false, not_or]; exact ⟨hSi, hSl⟩
  have hT : s.TypeIs (.ref it) "list_reverseiterator" := Heap.IsRevIter.typeIs hit
  have h1 : Builtin.List.listSameRef (.ref S) (.ref it) = false := by simp [Builtin.List.listSameRef, hSi]
  unfold Builtin.List.listExtendWith
  refine wpAny_bind (wpAny_typeOf hT ?_)
  rw [if_neg (by rw [h1]; decide)]
  refine wpAny_bind (wpAny_pyIter_revIter hit ?_)
  refine wpAny_bind (wpAny_holding ?_)
  unfold Builtin.List.listLengthHint
  refine wpAny_bind (wpAny_specialOf hT nolen_lri ?_)
  show wpAny _ A.in1 (specialOf (Value.ref it) (Str.ofString "__length_hint__") >>= _) _ _ _
  refine wpAny_bind (wpAny_specialOf hT hint_lri ?_)
  generalize hid : ("list_reverseiterator.__length_hint__" : String) = id0
  wp_delta
  rw [show splitId id0 = some ("list_reverseiterator", "__length_hint__") from by subst hid; decide +kernel]
  subst hid
  refine wpAny_bind (wpAny_isInstance (b := true) hT (by rw [isSubtype_type]; kernel_rfl) ?_)
  refine wpAny_pure ?_
  rw [if_neg (by decide)]
  have e0 : ((items.size : Nat) : Int) - 1 - ((0 : Nat) : Int) = (items.size : Int) - 1 := by omega
  refine wpAny_pure ⟨plainId_quiet F.plain_extend_loop _, codeAny_extend_loopS W hn _ hSf _ items.size 0 _ _ _ rfl (Nat.zero_le _) ⟨Nat.zero_le _, by rw [e0]; exact hit, hl⟩ hS (ItemsOf.nil _) fun s' acc' c' hm hS' hacc => ?_⟩
  rw [Moved.eq_with hm]
  refine hR s'.heap s'.toks acc' c' (fun b o hb hb2 e => hm.heap b o (fun hmem => ?_) e) hS' hacc
  rcases List.mem_cons.mp hmem with e' | hmem
  · exact hb e'
  · exact hb2 (List.mem_singleton.mp hmem)
theorem dl_init_rev {R : Result → Shared → Prop} {it l : Addr} {items : Array Value} (hh : A.handled = none) (hit : s.heap.IsRevIter it l ((items.size : Int) - 1)) (hl : s.heap.IsList l items) (hne : l ≠ it) (hn : items.size ≤ sizeLine) (S : Addr) (hSi : S ≠ it) (hSl : S ≠ l)
    (hS : s.heap.get? S = some { cls := .type "list", data := .seq #[] })
    (hR : ∀ h' tk acc' c', (∀ b o, b ≠ S → b ≠ it → s.heap.get? b = some o → h'.get? b = some o) → h'.get? S = some { cls := .type "list", dict := none, data := .seq acc' c', slots := #[] } →
      ItemsOf (fun i v => items[items.size - 1 - i]? = some v) acc' items.size → R (.ok (.ret .none)) { s with heap := h', toks := tk }) :
    wpAny (model prog w) A.in1 (Builtin.«list.__init__» ⟨[.ref S, .ref it], []⟩)
      (fun fin s' => match fin with | .done f => R (.ok f) s' | .again c' => c'.quiet = true ∧ codeAny (model prog w) A c' R s') (fun e s' => R (.error e) s') s := by
  show wpAny _ _ (do let old ← Builtin.List.listItems (.ref S); Builtin.List.listUpdate (.ref S) (fun _ => #[]); letGo old.toList.reverse; Builtin.List.listExtendWith (.ref S) (.ref it) .none) _ _ s
  refine wpAny_bind ?_
  unfold Builtin.List.listItems
  refine wpAny_bind (wpAny_seqItems hS rfl (wpAny_pure ?_))
  show wpAny _ _ (updateSeq S (fun _ => #[]) >>= fun _ => letGo (#[] : Array Value).toList.reverse >>= fun _ => Builtin.List.listExtendWith (.ref S) (.ref it) .none) _ _ s
  refine wpAny_bind (wpAny_updateSeq hS rfl ?_)
  have hS₂ := Heap.get?_update_self (Obj.mapSeq (fun _ => (#[] : Array Value))) hS rfl
  have oth : ∀ b o, b ≠ S → s.heap.get? b = some o → (s.heap.update S (Obj.mapSeq (fun _ => (#[] : Array Value)))).get? b = some o :=
    fun b o hb e => (Heap.get?_update_other _ _ (Ne.symm hb)).trans e
  refine wpAny_bind (wpAny_letGo ?_)
  refine dl_extend_rev (s := { s with heap := s.heap.update S (Obj.mapSeq (fun _ => (#[] : Array Value))) }) hh (hit.at fun o e => oth it o (Ne.symm hSi) e) (hl.at fun o e => oth l o (Ne.symm hSl) e) hne hn S hSi hSl _ .none hS₂ fun h' tk acc' c' hk hS' hacc => ?_
  exact hR h' tk acc' c' (fun b o hb hb2 e => hk b o hb hb2 (oth b o hb e)) hS' hacc
end
section
variable {prog : Program} {w : World} {A : Around} {E : Value → Shared → Prop} {s : Shared}
theorem dl_call_rev {it l : Addr} {items : Array Value} {Q : Value → Shared → Prop} (hh : A.handled = none) (hit : s.heap.IsRevIter it l ((items.size : Int) - 1)) (hl : s.heap.IsList l items) (hne : l ≠ it) (hn : items.size ≤ sizeLine)
    (hQ : ∀ h' tk acc' c', (∀ b o, b ≠ it → s.heap.get? b = some o → h'.get? b = some o) → h'.get? s.heap.objs.size = some { cls := .type "list", dict := none, data := .seq acc' c', slots := #[] } →
      ItemsOf (fun i v => items[items.size - 1 - i]? = some v) acc' items.size → Q (.ref s.heap.objs.size) { s with heap := h', toks := tk }) :
    wpAny (model prog w) A (call (.type "list") [.ref it]) Q E s := by
  refine callType_codes (Q₁ := fun obj s₁ => obj = .ref s.heap.objs.size ∧ s₁ = { s with heap := s.heap.push { cls := .type "list", data := .seq #[] } }) F.called_list (F.typeCall_list_1 _) F.entry_list_init
    (code_list_new _ ⟨rfl, rfl⟩) fun obj s₁ h₁ => ?_
  obtain ⟨rfl, rfl⟩ := h₁
  have hS : (s.heap.push { cls := .type "list", data := .seq #[] }).get? s.heap.objs.size = some { cls := .type "list", data := .seq #[] } := Heap.get?_push_size _ rfl
  obtain ⟨oi, hoi, _⟩ := id hit
  obtain ⟨ol, hol, _⟩ := id hl
  have hSi : s.heap.objs.size ≠ it := Nat.ne_of_gt (Heap.lt_size hoi)
  have hSl : s.heap.objs.size ≠ l := Nat.ne_of_gt (Heap.lt_size hol)
  refine ⟨⟨_, hS, rfl⟩, F.args_list_init_2 _ _, dl_init_rev (A := A.in1) (s := { s with heap := s.heap.push { cls := .type "list", data := .seq #[] } }) hh (hit.at fun o e => Heap.get?_push_of_some _ e) (hl.push _) hne hn _ hSi hSl hS fun h' tk acc' c' hk hS' hacc => ?_⟩
  exact ⟨rfl, hQ h' tk acc' c' (fun b o hb e => hk b o (Nat.ne_of_lt (Heap.lt_size e)) hb (Heap.get?_push_of_some _ e)) hS' hacc⟩
end
end RT
namespace DL
open PySem PySem.Spec PyProof.Rows L2
theorem paired_get {α β : Type} {R : α → β → Prop} : ∀ {xs : List α} {ys : List β} {i : Nat} {a : α}, Paired R xs ys → xs[i]? = some a → ∃ b, ys[i]? = some b ∧ R a b
  | _, _, 0, _, .cons h _, e => by cases e; exact ⟨_, rfl, h⟩
  | _, _, i + 1, _, .cons _ t, e => paired_get (i := i) t e
theorem set_self {α : Type} : ∀ {xs : List α} {i : Nat} {a : α}, xs[i]? = some a → xs.set i a = xs
  | x :: xs, 0, a, e => by cases e; rfl
  | x :: xs, i + 1, a, e => by show x :: xs.set i a = _; rw [set_self (i := i) e]
theorem paired_rev {α β : Type} {R : α → β → Prop} {xs : List α} {ys : List β} (h : Paired R xs ys) : Paired R xs.reverse ys.reverse := by
  induction h with
  | nil => exact .nil
  | cons h t ih =>
    rw [List.reverse_cons, List.reverse_cons]
    have app : ∀ {as : List _} {bs : List _} {cs : List _} {ds : List _}, Paired R as bs → Paired R cs ds → Paired R (as ++ cs) (bs ++ ds) := by
      intro as bs cs ds h1 h2
      induction h1 with
      | nil => exact h2
      | cons h t ih => exact .cons h ih
    exact app ih (.cons h .nil)
theorem rvs_reverse' {K : PySem.W.Frag} {W : Wd} {xs : List Vl} {vs : List V} (h : RVs K W xs vs) : RVs K W xs.reverse vs.reverse := paired_rev h
section
variable {X : Cx}
theorem pe_listRev {e : Expr} {te : TE} {p p2 pos pos2 : Pos} (hc : X.calm = true) (hg : Gl X "list") (hm : X.mg "list" = none) (hg2 : Gl X "reversed") (hm2 : X.mg "reversed" = none) (he : PE X e te)
    (hs : starEach [e] X.env = (false, eval e X.env) :: starEach [] X.env)
    (hs2 : starEach [.Call (.Name "reversed" p2) [e] [] pos2] X.env = (false, eval (.Call (.Name "reversed" p2) [e] [] pos2) X.env) :: starEach [] X.env) :
    PE X (.Call (.Name "list" p) [.Call (.Name "reversed" p2) [e] [] pos2] [] pos) (fun σ H Q => te σ H fun v H1 => ∃ a xs, v = .ref a ∧ SqL X.K H1 a xs ∧ ∀ p, H1 p = none → Q (.ref p) (upd H1 p (.lst xs.reverse))) := by
  refine ⟨fun pins s σ H Q I h => ?_⟩
  refine Call_ (ld_blt I hg hm boot_list (PyProof.Rows.callWith_type1 (args_cons (Call_ (ld_blt I hg2 hm2 PyProof.Rows.boot_reversed (PyProof.Rows.callWith_type1 (args_cons (thn (he.run pins s σ H _ I h) fun u s1 ⟨v, H1, I1, r1, q1⟩ => args_nil ?_) hs) hs rfl))) hs2) hs2 rfl))
  obtain ⟨a, xs, ev, hq, q⟩ := q1
  subst ev
  obtain rfl : u = Value.ref a := r1
  obtain ⟨its, rv, p', hz⟩ := I1.list hq
  refine call_reversed_list p'.isList (args_nil ?_)
  have k0 : ∀ b o, s1.heap.get? b = some o → (s1.heap.push (revObj a ((its.toArray.size : Int) - 1))).get? b = some o := fun b o e => Heap.get?_push_of_some _ e
  have I2 : Inv X pins σ H1 { s1 with heap := s1.heap.push (revObj a ((its.toArray.size : Int) - 1)) } := I1.kept (t' := s1.toks) k0
  have hl := p'.isList
  obtain ⟨ol, hol, _⟩ := id hl
  have hne : a ≠ s1.heap.objs.size := Nat.ne_of_lt (Heap.lt_size hol)
  have hn : its.toArray.size ≤ sizeLine := by rw [List.size_toArray, ← rv.length]; exact hz
  refine RT.dl_call_rev (s := { s1 with heap := s1.heap.push (revObj a ((its.toArray.size : Int) - 1)) }) (I1.ok.hd hc) ⟨_, Heap.get?_push_size _ rfl, rfl, rfl⟩ (hl.push _) hne hn fun h' tk acc c' hk hS hi => ?_
  have sz : (s1.heap.push (revObj a ((its.toArray.size : Int) - 1))).objs.size = s1.heap.objs.size + 1 := Heap.size_push ..
  have hle : s1.heap.objs.size ≤ (s1.heap.push (revObj a ((its.toArray.size : Int) - 1))).objs.size := by rw [sz]; exact Nat.le_succ _
  refine ⟨.ref (s1.heap.push (revObj a ((its.toArray.size : Int) - 1))).objs.size, upd H1 (s1.heap.push (revObj a ((its.toArray.size : Int) - 1))).objs.size (.lst xs.reverse), I1.laid (t' := tk) (fun b o e => hk b o (Nat.ne_of_lt (Heap.lt_size e)) (k0 b o e)) hle (show ObjOk X.prog X.w _ h' _ (.lst xs.reverse) from ⟨by rw [List.length_reverse]; exact hz, acc.toList, c', RT.vals_rev rv hi, by rw [Array.toArray_toList]; exact hS⟩), rfl, q _ (I1.hok.fresh hle)⟩
theorem d_lrev {C : Ctx} {Ex : L2.St → XD} {e : Expr} {m : Bool} {ev : Rho → M Vl} {p p2 pos pos2 : Pos} (hc : X.calm = true) (hg : Gl X "list") (hm : X.mg "list" = none) (hg2 : Gl X "reversed") (hm2 : X.mg "reversed" = none) (he : PEd X C Ex e ev)
    (hs : starEach [e] X.env = (false, eval e X.env) :: starEach [] X.env)
    (hs2 : starEach [.Call (.Name "reversed" p2) [e] [] pos2] X.env = (false, eval (.Call (.Name "reversed" p2) [e] [] pos2) X.env) :: starEach [] X.env) :
    PEd X C Ex (.Call (.Name "list" p) [.Call (.Name "reversed" p2) [e] [] pos2] [] pos) (fun ρ => bnd (ev ρ) (revL m)) := by
  refine PE.weak (pe_listRev hc hg hm hg2 hm2 he hs hs2) fun σ H Q ⟨W, S, ρ, s, r, q⟩ => ?_
  refine dT.one s r q fun x S1 W1 H1 v l1 s1 r1 rx q => ?_
  unfold revL at q
  cases e : rdL S1 x with
  | none => simp only [e] at q; exact q.elim
  | some xs =>
    simp only [e] at q
    obtain ⟨p, vs, rfl, sq, rv⟩ := rdL_at s1 rx e
    exact ⟨p, vs, rfl, sq, (newL_run s1 (rvs_reverse' rv) q).2⟩
/-- a list that stands in a name is from here on not changed -/
theorem s_gh {C : Ctx} {Wx : WX} {i : Nat} {xs : List Stmt} {evr : Rho → M Fl} (h : PSsd X C Wx xs evr) : PSsd X C Wx xs (fun ρ => bnd (match ρ[i]? with
    | some (some v) => bnd (frzV v) fun x => pur (Fl.nx (ρ.set i (some x)))
    | _ => bad) fun o => match o with
    | .nx ρ' => evr ρ'
    | o => pur o) := by
  refine PSs.weak h fun D σ H ⟨W, S, ρ, s, r, q⟩ => ?_
  (try dsimp only at q)
  cases e : ρ[i]? with
  | none => rw [e] at q; exact q.elim
  | some ov =>
    cases ov with
    | none => rw [e] at q; exact q.elim
    | some a =>
      rw [e] at q
      have q : Run X.K C exNv (RF X.K) (bnd (bnd (frzV a) fun x => pur (Fl.nx (ρ.set i (some x)))) (fun o => match o with
        | .nx ρ' => evr ρ'
        | o => pur o) S) W S H (QD X.K C Wx D) := q
      rw [bind_assoc] at q
      obtain ⟨p, hp, hr⟩ := paired_get r e
      obtain ⟨v, rfl, rv⟩ := hr a rfl
      have key : ∀ v', σ[i]? = some (some v') → v' = v → dS X.K C Wx evr D σ H := by
        intro v' h1 h2
        refine (frz_run (Q := fun v' H' => σ[i]? = some (some v') → H' = H → dS X.K C Wx evr D σ H') s rv (Run.bnd q fun a' S1 W1 H1 v' t1 s1 ra q => fun hs hH => ?_)) (by rw [hp]) rfl
        refine ⟨W1, S1, ρ.set i (some a'), s1, ?_, q⟩
        have := RE.set i (r.mono t1.le) ra
        rw [set_self hs] at this
        exact this
      exact key v hp rfl
end
end DL

namespace DL
open PySem PySem.Spec PyProof.Rows L2
/-! ### list(range(a)), list(range(a, b)) -/
section
variable {X : Cx}
theorem rvs_rg {K : PySem.W.Frag} {W : Wd} (lo : Int) : ∀ l : List Nat, RVs K W (l.map fun i : Nat => Vl.d (.int (lo + (i : Nat)))) (l.map fun i => V.int (lo + (i : Nat)))
  | [] => .nil
  | i :: l => .cons (int_rv _) (rvs_rg lo l)
theorem d_lrng1 {C : Ctx} {Ex : L2.St → XD} {e : Expr} {m : Bool} {ev : Rho → M Vl} {p p2 pos pos2 : Pos} (hc : X.calm = true) (hg : Gl X "list") (hm : X.mg "list" = none) (hg2 : Gl X "range") (hm2 : X.mg "range" = none) (he : PEd X C Ex e ev)
    (hs : starEach [e] X.env = (false, eval e X.env) :: starEach [] X.env)
    (hs2 : starEach [.Call (.Name "range" p2) [e] [] pos2] X.env = (false, eval (.Call (.Name "range" p2) [e] [] pos2) X.env) :: starEach [] X.env) :
    PEd X C Ex (.Call (.Name "list" p) [.Call (.Name "range" p2) [e] [] pos2] [] pos) (fun ρ => bnd (ev ρ) fun x => match x with | .d (.int i) => lrngV m 0 i | _ => bad) := by
  refine PE.weak (pe_listRg hc hg hm (prg_1 hg2 hm2 he hs) hs2) fun σ H Q ⟨W, S, ρ, s, r, q⟩ => ?_
  refine dT.one s r q fun x S1 W1 H1 v l1 s1 r1 rx q => ?_
  rcases x with (_ | _ | i | _ | _ | _ | _) | _ | _ <;> first | exact False.elim q | skip
  have e := rv_int rx
  subst e
  have q : Run X.K C (Ex σ) (RV X.K) (lrngV m 0 i S1) W1 S1 H1 Q := q
  unfold lrngV at q
  by_cases hb : -(2 ^ 62) ≤ (0 : Int) ∧ (0 : Int) < 2 ^ 62 ∧ -(2 ^ 62) ≤ i ∧ i < 2 ^ 62 ∧ (i - 0).toNat ≤ 2 ^ 24
  · rw [if_pos hb] at q
    exact ⟨i, rfl, hb, (newL_run s1 (rvs_rg 0 _) q).2⟩
  · rw [if_neg hb] at q; exact False.elim q
theorem d_lrng2 {C : Ctx} {Ex : L2.St → XD} {a b : Expr} {m : Bool} {ea eb : Rho → M Vl} {p p2 pos pos2 : Pos} (hc : X.calm = true) (hg : Gl X "list") (hm : X.mg "list" = none) (hg2 : Gl X "range") (hm2 : X.mg "range" = none) (ha : PEd X C Ex a ea) (hb : PEd X C Ex b eb)
    (na : starEach [a, b] X.env = (false, eval a X.env) :: starEach [b] X.env) (nb : starEach [b] X.env = (false, eval b X.env) :: starEach [] X.env) (hp : (backTo pos2 (starEach [b] X.env)).any (·.1) = false)
    (hs2 : starEach [.Call (.Name "range" p2) [a, b] [] pos2] X.env = (false, eval (.Call (.Name "range" p2) [a, b] [] pos2) X.env) :: starEach [] X.env) :
    PEd X C Ex (.Call (.Name "list" p) [.Call (.Name "range" p2) [a, b] [] pos2] [] pos) (fun ρ => bnd (ea ρ) fun x => bnd (eb ρ) fun y => match x, y with | .d (.int i), .d (.int j) => lrngV m i j | _, _ => bad) := by
  refine PE.weak (pe_listRg hc hg hm (prg_2 hg2 hm2 ha hb na nb hp) hs2) fun σ H Q ⟨W, S, ρ, s, r, q⟩ => ?_
  refine dT.one s r q fun x S1 W1 H1 v l1 s1 r1 rx q => ?_
  refine dT.one s1 r1 q fun y S2 W2 H2 u l2 s2 r2 ry q => ?_
  rcases x with (_ | _ | i | _ | _ | _ | _) | _ | _ <;> first | exact False.elim q | skip
  rcases y with (_ | _ | j | _ | _ | _ | _) | _ | _ <;> first | exact False.elim q | skip
  have e := rv_int rx
  have e2 := rv_int ry
  subst e; subst e2
  have q : Run X.K C (Ex σ) (RV X.K) (lrngV m i j S2) W2 S2 H2 Q := q
  unfold lrngV at q
  by_cases hb : -(2 ^ 62) ≤ i ∧ i < 2 ^ 62 ∧ -(2 ^ 62) ≤ j ∧ j < 2 ^ 62 ∧ (j - i).toNat ≤ 2 ^ 24
  · rw [if_pos hb] at q
    exact ⟨i, j, rfl, rfl, hb, (newL_run s2 (rvs_rg i _) q).2⟩
  · rw [if_neg hb] at q; exact False.elim q
end
end DL

namespace RT
open PySem PySem.Spec PyProof.Rows HT
section
variable {prog : Program} {w : World} {A : Around} {E : Value → Shared → Prop} {s : Shared}
theorem rev_pick (xs : Array Value) : ((List.range xs.size).filterMap fun (m : Nat) => xs[(((xs.size : Nat) : Int) - 1 + (m : Int) * (-1)).toNat]?) = xs.toList.reverse := by
  refine List.ext_getElem? fun i => ?_
  have e : ∀ m, m ∈ List.range xs.size → xs[(((xs.size : Nat) : Int) - 1 + (m : Int) * (-1)).toNat]? = some (xs.toList.reverse[m]?.getD .none) := fun m hm => by
    have hm := List.mem_range.mp hm
    have e1 : (((xs.size : Nat) : Int) - 1 + (m : Int) * (-1)).toNat = xs.size - 1 - m := by omega
    rw [e1, List.getElem?_reverse (by simpa using hm), Array.length_toList, Array.getElem?_toList]
    have : xs.size - 1 - m < xs.size := by omega
    rw [Array.getElem?_eq_getElem this]
    rfl
  have e2 : ((List.range xs.size).filterMap fun (m : Nat) => xs[(((xs.size : Nat) : Int) - 1 + (m : Int) * (-1)).toNat]?) = (List.range xs.size).map fun m => xs.toList.reverse[m]?.getD .none := by
    generalize List.range xs.size = l at e
    clear i
    induction l with
    | nil => rfl
    | cons m l ih =>
      rw [List.filterMap_cons, List.map_cons, ← ih fun k hk => e k (by simp [hk])]
      simp only [e m (by simp)]
  rw [e2, List.getElem?_map]
  by_cases hi : i < xs.size
  · rw [List.getElem?_range hi]
    have : i < xs.toList.reverse.length := by simpa using hi
    rw [List.getElem?_eq_getElem this, Option.map_some, List.getElem?_eq_getElem this]
    rfl
  · rw [List.getElem?_eq_none (by simpa using Nat.le_of_not_lt hi), List.getElem?_eq_none (by simpa using Nat.le_of_not_lt hi)]
    rfl
theorem applied_rev {sl : Addr} {vs : Value} {n : Nat} {Q : Int × Int × Nat → Shared → Prop} (hs : s.heap.IsSliceOf sl .none .none vs) (ps : IsPart vs (some (-1)))
    (h : Q ((n : Int) - 1, -1, n) s) : wpAny (model prog w) A (Builtin.Slice.sliceApplied (.ref sl) (pure (n : Int))) Q E s := by
  obtain ⟨os, hos, hcs, hds⟩ := id hs
  unfold Builtin.Slice.sliceApplied Builtin.Slice.sliceFields
  refine wpAny_bind (wpAny_bind (wpAny_field hos hds (x := .none) rfl (wpAny_bind (wpAny_field hos hds (x := .none) rfl (wpAny_bind (wpAny_field hos hds (x := vs) rfl (wpAny_pure ?_)))))))
  refine wpAny_bind (slicePart_ ps ?_)
  show wpAny _ _ (if ((-1 : Int) == 0) = true then _ else _) _ _ s
  rw [if_neg (by decide)]
  refine wpAny_bind (slicePart_none (wpAny_bind (slicePart_none (wpAny_bind (wpAny_pure ?_)))))
  have e : Builtin.Slice.sliceAdjust none none (-1) (n : Int) = ((n : Int) - 1, -1) := rfl
  have e2 : Builtin.Slice.slicePlaces ((n : Int) - 1) (-1) (-1) = n := by
    unfold Builtin.Slice.slicePlaces
    rw [if_neg (by decide)]
    have : (-(-1 : Int)) = 1 := rfl
    rw [this, Int.ediv_one]
    split <;> omega
  show wpAny _ _ (match Builtin.Slice.sliceAdjust none none (-1) (n : Int) with | (lo, hi) => pure (lo, (-1 : Int), Builtin.Slice.slicePlaces lo hi (-1))) _ _ s
  rw [e]
  show wpAny _ _ (pure ((n : Int) - 1, (-1 : Int), Builtin.Slice.slicePlaces ((n : Int) - 1) (-1) (-1))) _ _ s
  rw [e2]
  exact wpAny_pure h
theorem getItem_tuple_rev {t sl : Addr} {items : Array Value} {vs : Value} {Q : Value → Shared → Prop} (ht : IsTup s.heap t items) (hs : s.heap.IsSliceOf sl .none .none vs) (ps : IsPart vs (some (-1)))
    (h : Q (.ref s.heap.objs.size) { s with heap := s.heap.push { cls := .type "tuple", data := .seq items.toList.reverse.toArray } })
    (hsz : items.size ≤ sizeLine) : wpAny (model prog w) A (getItem (.ref t) (.ref sl)) Q E s := by
  have hok : sizeOk (.seq items.toList.reverse.toArray) := by
    show items.toList.reverse.toArray.size ≤ sizeLine
    rw [List.size_toArray, List.length_reverse, Array.length_toList]
    exact hsz
  obtain ⟨os, hos, hcs, hds⟩ := id hs
  have hTs : s.TypeIs (.ref sl) "slice" := ⟨os, hos, hcs⟩
  unfold getItem
  try with_reducible refine wpAny_holding ?_
  first | refine wpAny_bind (wpAny_pure ?_) | skip
  refine wpAny_bind (wpAny_sequenceKey ht.typeIs (by decide) ?_)
  refine wpAny_bind (wpAny_callSpecial?_slot (name := Str.ofString "__getitem__") ht.typeIs PyProof.Rows.slot_tuple_getitem
    (wpAny_call_entry PyProof.Rows.slot_tuple_getitem ht.typeIs entry_tuple_getitem ?_ (args_tuple_getitem _ _)))
  show wpAny _ _ (Builtin.Tuple.tupleItemsOf (.ref t) >>= _) _ _ s
  refine wpAny_bind (tupleItemsOf_ ht ?_)
  refine wpAny_bind (wpAny_typeOf hTs ?_)
  rw [if_pos (by decide)]
  refine wpAny_bind (applied_rev hs ps ?_)
  have hno : ¬ (((((items.size : Nat) : Int) - 1) == 0 && (-1 : Int) == 1 && items.size == items.size) = true) := by
    intro q
    rw [Bool.and_eq_true, Bool.and_eq_true] at q
    exact absurd q.1.2 (by decide)
  show wpAny _ _ (if ((((items.size : Nat) : Int) - 1) == 0 && (-1 : Int) == 1 && items.size == items.size) = true then _ else _) _ _ s
  rw [if_neg hno, rev_pick]
  first
    | exact wpAny_bind (m := Builtin.Tuple.tupleExact _) (wpAny_newObj_type (wpAny_pure ⟨_, rfl, wpAny_pure h⟩) hok)
    | exact wpAny_bind (m := Builtin.Tuple.tupleExact _) (wpAny_newObj_type (wpAny_bind (wpAny_pure (wpAny_pure ⟨_, rfl, wpAny_pure h⟩))) hok)
    | exact wpAny_bind (wpAny_bind (m := Builtin.Tuple.tupleExact _) (wpAny_newObj_type (wpAny_pure (wpAny_pure ⟨_, rfl, wpAny_pure h⟩)) hok))
end
end RT
namespace DL
open PySem PySem.Spec PyProof.Rows L2
section
variable {X : Cx}
/-- t[::-1] -/
def tRevT (K : PySem.W.Frag) (te : TE) : TE := fun σ H Q => te σ H fun x H1 => ∃ a xs, x = .ref a ∧ SqT K H1 a xs ∧ ∀ p, H1 p = none → Q (.ref p) (upd H1 p (.tup xs.reverse))
theorem pe_revT {e : Expr} {te : TE} {k : Nat} {p1 p2 p3 pos : Pos} (he : PE X e te) : PE X (.Subscript e (.Slice none none (some (.UnaryOp .USub (.Constant (.int 1) k p1) p2)) p3) pos) (tRevT X.K te) := by
  refine ⟨fun pins s σ H Q I h => ?_⟩
  refine Subscript_ (thn (he.run pins s σ H _ I h) fun v s1 ⟨x, H1, I1, r1, q1⟩ => ?_)
  obtain ⟨a, xs, ex, hx, q⟩ := q1
  subst ex
  cases r1
  have hst : PO X (some (.UnaryOp .USub (.Constant (.int 1) k p1) p2)) (tPart (tUn (rU fun i => .int (-i)) (tC (.int 1)))) := po_some (pe_un un_neg pe_int)
  refine wpAny_Slice (thn (po_none.run pins s1 σ H1 (fun o H2 => o = none ∧ H2 = H1) I1 ⟨rfl, rfl⟩) fun vl s2 ⟨l, H2, I2, pl, el, e2⟩ => ?_)
  subst el e2
  refine thn (po_none.run pins s2 σ H2 (fun o H3 => o = none ∧ H3 = H2) I2 ⟨rfl, rfl⟩) fun vu s3 ⟨u, H3, I3, pu, eu, e3⟩ => ?_
  subst eu e3
  refine thn (hst.run pins s3 σ H3 (fun o H4 => o = some (-1) ∧ H4 = H3) I3 ⟨1, rfl, -1, rfl, rfl, rfl⟩) fun vs s4 ⟨o, H4, I4, ps, eo, e4⟩ => ?_
  subst eo e4
  cases pl
  cases pu
  have I5 : Inv X pins σ H4 { s4 with heap := s4.heap.push { cls := .type "slice", data := .fields #[.none, .none, vs] } } := I4.kept (t' := s4.toks) fun b ob q => Heap.get?_push_of_some _ q
  obtain ⟨its, r, ht, hz⟩ := I5.tuple hx
  have hlen := r.length
  show wpAny (model X.prog X.w) X.A (subscriptTail e (.Slice none none (some (.UnaryOp .USub (.Constant (.int 1) k p1) p2)) p3) (.ref a) (.ref s4.heap.objs.size)) (EP X pins σ Q) X.xe { s4 with heap := s4.heap.push { cls := .type "slice", data := .fields #[.none, .none, vs] } }
  refine tail_any (ops := [.ref a, .ref s4.heap.objs.size]) ht.typeIs (PyProof.Rows.slot_tuple_getitem.lookup) ?_ (by with_unfolding_all rfl)
  refine RT.getItem_tuple_rev ht (Heap.IsSliceOf.new _ .none .none vs) ps ?_ (by rw [List.size_toArray]; omega)
  refine ⟨.ref _, _, I5.laid (t' := s4.toks) (o := .tup xs.reverse) (fun b ob q => Heap.get?_push_of_some _ q) (Nat.le_refl _) ?_, rfl, q _ (I5.hok.fresh (Nat.le_refl _))⟩
  exact ⟨by rw [List.length_reverse]; exact hz, _, r.reverse, IsTup.new _ _⟩
variable {C : Ctx} {Ex : L2.St → XD}
theorem d_revT {e : Expr} {k : Nat} {p1 p2 p3 pos : Pos} {ev : Rho → M Vl} (he : PEd X C Ex e ev) : PEd X C Ex (.Subscript e (.Slice none none (some (.UnaryOp .USub (.Constant (.int 1) k p1) p2)) p3) pos) (fun ρ => bnd (ev ρ) revTV) := by
  refine PE.weak (pe_revT he) fun σ H Q ⟨W, S, ρ, s, r, q⟩ => ?_
  refine dT.one s r q fun x S1 W1 H1 v l1 s1 r1 rx q => ?_
  rcases x with (_ | _ | _ | _ | _ | xs | _) | _ | _ <;> first | exact False.elim q | skip
  obtain ⟨p, vs, rfl, hp, rv⟩ := rv_tup rx
  have rr : RVs X.K W1 (xs.reverse.map .d) vs.reverse := by rw [List.map_reverse]; exact rvs_reverse rv
  exact ⟨p, vs, rfl, same_tup s1.sub hp, (Run.tup s1 rr q).2⟩
end
end DL

namespace SN
open PySem PySem.W PyProof.Rows RT
section
variable {prog : Program} {w : World} {A : Around} {E : Value → Shared → Prop} {s : Shared} {β : Type} {R : Value → β → Prop} {enc : β → PyData}
/-- sorted(x), what is gathered may draw -/
theorem sorted_any2 {x : Value} {U : List Value → List β → Prop} {Q : Value → Shared → Prop}
    (hcol : ∀ {T : List Value → Shared → Prop}, (∀ s1 us bs, (∀ b o, s.heap.get? b = some o → s1.heap.get? b = some o) → s.heap.objs.size ≤ s1.heap.objs.size → s1.gens = s.gens → s1.os = s.os → U us bs → T us s1) → wpAny (model prog w) A.in1 (collect x) T E s)
    (hU : ∀ us bs, U us bs → EachIs R us bs ∧ EachIs (fun v b => ∃ as, Reads s.heap v (enc b) as) us bs ∧ AllAlike (bs.map enc) ∧ RT.Srtb (bs.map enc) ∧ bs.length ≤ sizeLine ∧ ∀ b ∈ bs, A.units + 2 + (enc b).depth < cLine)
    (h : ∀ us bs out p s2 c, U us bs → EachIs R out (bs.mergeSort (dataLe false enc)) → (∀ b o, s.heap.get? b = some o → s2.heap.get? b = some o) → s.heap.objs.size ≤ p → s2.gens = s.gens → s2.os = s.os → s2.heap.get? p = some (seqObj "list" (List.toArray out) c) → Q (.ref p) s2) :
    wpAny (model prog w) A (call (.builtin "sorted") [x]) Q E s := by
  refine call_function_entry_kw kind_sorted plain_sorted entry_sorted (args_sorted1 _) ?_
  unfold Builtin.«sorted»
  refine wpAny_bind (m := checkCount "sorted" 1 1 _) (wpAny_pure ?_)
  refine wpAny_bind (hcol fun s1 us bs k1 hz g1 o1 u => ?_)
  obtain ⟨e, er, hal, hk, hL, hu⟩ := hU us bs u
  have hL' : us.length ≤ sizeLine := by rw [e.length]; exact hL
  refine wpAny_bind (wpAny_newList ?_ hL')
  have ha : (s1.heap.push (seqObj "list" us.toArray 0)).get? s1.heap.objs.size = some (seqObj "list" us.toArray 0) := Heap.get?_push_size _ rfl
  have er2 : EachIs (fun v b => ∃ as, Reads (s1.heap.push (seqObj "list" us.toArray 0)) v (enc b) as ∧ s1.heap.objs.size ∉ as) us bs := by
    refine (each_mem er).mono fun v b ⟨⟨as, r⟩, hb⟩ => ⟨as, PyProof.Rows.Reads.keeps (fun c o q => Heap.get?_push_of_some _ (k1 c o q)) r, fun hm => ?_⟩
    have hm2 : b ∈ bs := hb
    have al := hal _ (List.mem_map.mpr ⟨b, hm2, rfl⟩) _ (List.mem_map.mpr ⟨b, hm2, rfl⟩)
    exact Nat.lt_irrefl _ (reads_lt (PyProof.Rows.Reads.keeps k1 r) al _ hm)
  refine wpAny_bind (wpAny_holding (RT.list_sort_t (n := 0) (s := { s1 with heap := s1.heap.push (seqObj "list" us.toArray 0) }) (Q := fun v s2 => wpAny (model prog w) A.in1 (ret (.ref s1.heap.objs.size)) _ E s2) ha e er2 hal hk hL (fun b hb => by have := hu b hb; simp only [Around.in1_units]; omega) fun out hl eo => ?_))
  obtain ⟨c, hc⟩ := sortedHeap_at (out := List.toArray out) ha
  refine wpAny_pure ⟨_, rfl, h us bs out s1.heap.objs.size _ c u eo (fun b o q => ?_) hz g1 o1 hc⟩
  have q1 := k1 b o q
  have lt := Heap.lt_size q1
  show (sortedHeap _ _ _ _).get? b = _
  rw [sortedHeap_old (Nat.ne_of_lt lt) (by rw [size_push']; exact Nat.lt_succ_of_lt lt)]
  exact Heap.get?_push_of_some _ q1
end
end SN
namespace DL
open PySem PySem.Spec PyProof.Rows L2 SN
theorem perm_map {α β : Type} {f : α → β} : ∀ {l : List β} {L : List α}, l.Perm (L.map f) → ∃ M : List α, M.Perm L ∧ l = M.map f := by
  suffices H : ∀ {l m : List β}, l.Perm m → ∀ L : List α, m = L.map f → ∃ M : List α, M.Perm L ∧ l = M.map f from @fun l L p => H p _ rfl
  intro l m p
  induction p with
  | nil => intro L e; exact ⟨[], by rw [List.map_eq_nil_iff.mp e.symm], rfl⟩
  | cons x _ ih =>
    intro L e
    obtain ⟨a, r, rfl, rfl, e2⟩ := List.map_eq_cons_iff.mp e.symm
    obtain ⟨M, pm, rfl⟩ := ih r e2.symm
    exact ⟨a :: M, pm.cons _, rfl⟩
  | swap x y l =>
    intro L e
    obtain ⟨a, r, rfl, rfl, e2⟩ := List.map_eq_cons_iff.mp e.symm
    obtain ⟨b, r2, rfl, rfl, rfl⟩ := List.map_eq_cons_iff.mp e2
    exact ⟨b :: a :: r2, .swap _ _ _, rfl⟩
  | trans _ _ ih1 ih2 =>
    intro L e
    obtain ⟨M, pm, e2⟩ := ih2 L e
    obtain ⟨M2, pm2, e3⟩ := ih1 M e2
    exact ⟨M2, pm2.trans pm, e3⟩
open Classical in
theorem pigeon {α : Type} {l m : List α} (h : l.Nodup) (k : ∀ x ∈ l, x ∈ m) : l.length ≤ m.length := by
  induction l generalizing m with
  | nil => exact Nat.zero_le _
  | cons x l ih =>
    obtain ⟨h1, h2⟩ := List.nodup_cons.mp h
    have hx := k x (by simp)
    have := ih (m := m.erase x) h2 fun y hy => (List.mem_erase_of_ne (fun e => h1 (by rw [← e]; exact hy))).mpr (k y (by simp [hy]))
    rw [List.length_erase_of_mem hx] at this
    have : 0 < m.length := List.length_pos_of_mem hx
    simp only [List.length_cons]
    omega
open Classical in
theorem same_perm {α : Type} {l m : List α} (h1 : l.Nodup) (h2 : m.Nodup) (h : ∀ x, x ∈ l ↔ x ∈ m) : l.Perm m := (List.perm_ext_iff_of_nodup h1 h2).mpr h
mutual
theorem keyD_inj : ∀ {k j : NestedKey}, keyD k = keyD j → k = j
  | .none, j, h => by cases j <;> first | rfl | (simp [keyD] at h)
  | .num a, j, h => by cases j <;> first | (simp [keyD] at h; done) | (simp only [keyD, PyData.int.injEq] at h; rw [h])
  | .text a, j, h => by cases j <;> first | (simp [keyD] at h; done) | (simp only [keyD, PyData.str.injEq] at h; rw [h])
  | .tup ks, j, h => by cases j <;> first | (simp [keyD] at h; done) | (simp only [keyD, PyData.tuple.injEq] at h; rw [keyDs_inj h])
theorem keyDs_inj : ∀ {ks js : List NestedKey}, keyDs ks = keyDs js → ks = js
  | [], js, h => by cases js <;> first | rfl | (simp [keyDs] at h)
  | k :: ks, js, h => by
    cases js with
    | nil => simp [keyDs] at h
    | cons j js =>
      simp only [keyDs, List.cons.injEq] at h
      rw [keyD_inj h.1, keyDs_inj h.2]
end
mutual
theorem numK_lay : ∀ {k : NestedKey}, numK k = true → (keyD k).canLay0 = true
  | .num _, _ => rfl
  | .tup ks, h => by simp only [keyD, PyData.canLay0]; exact numKs_lay (by simpa [numK] using h)
  | .none, h => by cases h
  | .text _, h => by cases h
theorem numKs_lay : ∀ {ks : List NestedKey}, numKs ks = true → PyData.canLayAll0 (keyDs ks) = true
  | [], _ => rfl
  | k :: ks, h => by
    simp only [numKs, Bool.and_eq_true] at h
    simp only [keyDs, PyData.canLayAll0, numK_lay h.1, numKs_lay h.2]; rfl
end
theorem each_eq : ∀ {us : List Value} {M : List (Addr × NestedKey)}, PySem.W.EachIs (fun u (b : Addr × NestedKey) => u = Value.ref b.1) us M → us = M.map fun p => Value.ref p.1
  | _, _, .nil => rfl
  | _, _, .cons h t => by rw [List.map_cons, ← each_eq t, h]
theorem dzAll_dp1 {K : PySem.W.Frag} {H : Hp} {v : V} {d : PyData} (h : Dz K H v d) : Dp K H v d := dz_dp h
section
variable {X : Cx} {pins : List (Addr × Obj)} {σ : L2.St} {H : Hp} {s : Shared}
/-- the set that came of ds -/
def SetAtD (X : Cx) (W : Wd) (h : Heap) (a : Addr) (ds : List PyData) : Prop :=
  (∃ is : List Int, ds = is.map .int ∧ ∃ c, SetR X.w h a (fun j => decide (j ∈ is)) c) ∨
  ∃ ps : List (Addr × NestedKey), ds = ps.map (fun p => keyD p.2) ∧ (∀ p ∈ ps, Dz X.K W.z (.ref p.1) (keyD p.2) ∧ numK p.2 = true) ∧ ∃ L es ep t, SetN X.w h a L es ep t ∧ Had ps ps.length L
/-- the values that stand for tuples -/
theorem refs_of {K : PySem.W.Frag} {W : Wd} : ∀ {ks : List NestedKey} {vs : List V}, (∀ k ∈ ks, ∃ l, k = .tup l) → RVs K W ((ks.map keyD).map .d) vs → ∃ ps : List (Addr × NestedKey), ks = ps.map (·.2) ∧ vs = ps.map (fun p => V.ref p.1) ∧ ∀ p ∈ ps, Dz K W.z (.ref p.1) (keyD p.2)
  | [], _, _, r => by cases r; exact ⟨[], rfl, rfl, fun _ h => nomatch h⟩
  | k :: ks, _, hk, r => by
    cases r with
    | cons h t =>
      obtain ⟨ps, e1, e2, e3⟩ := refs_of (fun j hj => hk j (by simp [hj])) t
      obtain ⟨l, rfl⟩ := hk k (by simp)
      obtain ⟨h, _⟩ := h
      have h0 := h
      rw [keyD] at h
      cases h with
      | @tup a _ _ hs ha => exact ⟨(a, .tup l) :: ps, by rw [List.map_cons, ← e1], by rw [List.map_cons, ← e2], fun p hp => by
          rcases List.mem_cons.mp hp with e | hp
          · rw [e]; exact h0
          · exact e3 p hp⟩
theorem vals_refs : ∀ {ps : List (Addr × NestedKey)} {us : List Value}, Vals (ps.map fun p => V.ref p.1) us → us = ps.map fun p => Value.ref p.1
  | [], _, .nil => rfl
  | p :: ps, _, .cons r t => by rw [vals_refs t]; cases r; rfl
theorem vals_ints : ∀ {ns : List Int} {us : List Value}, Vals (ns.map V.int) us → IntsAre us ns
  | [], _, .nil => .nil
  | n :: ns, _, .cons r t => by obtain ⟨k, rfl⟩ := r; exact .cons n k (vals_ints t)
theorem ints_vals : ∀ {ns : List Int} {us : List Value}, IntsAre us ns → Vals (ns.map V.int) us
  | _, _, .nil => .nil
  | _, _, .cons n t h => .cons ⟨t, rfl⟩ (ints_vals h)
theorem num_of : ∀ {is : List Int}, unl (is.map .int) = (unl (is.map .int)).map id := by simp
/-- set(xs) -/
theorem set_run {C : Ctx} (hc : X.calm = true) (hu : X.A.units + 66 < cLine) (I : Inv X pins σ H s) {W : Wd} {S : Store} {a : Vl} {x : V} {u : Value} {ds : List PyData} (sr : SR X.K C W S H) (ra : RV X.K W a x) (rx : RelV x u) (e : seqD S a = some ds) (ok : SetOk ds) {Q : Value → Shared → Prop}
    (q : ∀ h2 tk, (∀ b o, s.heap.get? b = some o → h2.get? b = some o) → SetAtD X W h2 s.heap.objs.size ds → Q (.ref s.heap.objs.size) { s with heap := h2, toks := tk }) : wpAny (model X.prog X.w) X.A (call (.type "set") [u]) Q X.xe s := by
  obtain ⟨p, vs, rfl, hs, rv⟩ := seqD_at sr ra e
  cases rx
  obtain ⟨few, ok⟩ := ok
  have hd := I.ok.hd hc
  rcases ok with ⟨is, rfl, hl⟩ | ⟨ks, rfl, hk⟩
  · have ev := rvs_ints rv
    subst ev
    have fin : ∀ {h2 : Heap} {tk : Nat}, (∃ c, SetR X.w h2 s.heap.objs.size (fun j => decide (j ∈ is)) c ∧ c ≤ is.length ∧ ∀ b o, s.heap.get? b = some o → h2.get? b = some o) → Q (.ref s.heap.objs.size) { s with heap := h2, toks := tk } := fun ⟨c, R, _, k⟩ => q _ _ k (.inl ⟨is, rfl, c, R⟩)
    have sc : is.length + 1 < scanBound := by unfold scanBound; omega
    rcases hs with hs | hs
    · obtain ⟨its, r, pl, _⟩ := I.list hs
      exact call_set_L pl.isList hd (fun B hb _ => loopI_L pl.isList hb is (by simpa using vals_ints r) sc) fun h2 tk f => fin f
    · obtain ⟨its, r, pl, _⟩ := I.tuple hs
      exact call_set_T pl hd (fun B hb _ => loopI_T pl hb is (by simpa using vals_ints r) sc) fun h2 tk f => fin f
  · obtain ⟨ps, e1, rfl, hz⟩ := refs_of (fun k h => (hk k h).1) rv
    subst e1
    have isn : ∀ r ∈ ps, IsN s.heap r.2 r.1 := fun r hr => ⟨nested_at I sr.sub (hz r hr) rfl, (hk r.2 (List.mem_map.mpr ⟨r, hr, rfl⟩)).2⟩
    have fw : fewN ps := fun l nd hm => by
      have : (l.map keyD).length ≤ (unl ((ps.map (·.2)).map keyD)).length := pigeon (by
        exact List.pairwise_map.mpr (nd.imp fun {a b} h e => h (keyD_inj e))) fun d hd => by
        obtain ⟨k, hk, rfl⟩ := List.mem_map.mp hd
        exact mem_unl.mpr (List.mem_map.mpr ⟨k, hm k hk, rfl⟩)
      rw [List.length_map] at this
      omega
    have fin : ∀ {h2 : Heap} {tk : Nat}, (∃ L es ep t, SetN X.w h2 s.heap.objs.size L es ep t ∧ Had ps ps.length L ∧ ∀ b o, s.heap.get? b = some o → h2.get? b = some o) → Q (.ref s.heap.objs.size) { s with heap := h2, toks := tk } := fun ⟨L, es, ep, t, R, g, k⟩ =>
      q _ _ k (.inr ⟨ps, by rw [List.map_map]; rfl, fun r hr => ⟨hz r hr, (hk r.2 (List.mem_map.mpr ⟨r, hr, rfl⟩)).2.2⟩, L, es, ep, t, R, g⟩)
    rcases hs with hs | hs
    · obtain ⟨its, r, pl, _⟩ := I.list hs
      exact call_set_L pl.isList hd (fun B hb hB => loopN_L pl.isList hb (by omega) ps (by simpa using vals_refs r) isn fw) fun h2 tk f => fin f
    · obtain ⟨its, r, pl, _⟩ := I.tuple hs
      exact call_set_T pl hd (fun B hb hB => loopN_T pl hb (by omega) ps (by simpa using vals_refs r) isn fw) fun h2 tk f => fin f
/-- the keys of the set are those of ds, each once -/
theorem keys_perm {ps L : List (Addr × NestedKey)} (g : Had ps ps.length L) (nd : (L.map (·.2)).Nodup) : (L.map (fun p => keyD p.2)).Perm (unl (ps.map (fun p => keyD p.2))) := by
  refine same_perm ?_ (nodup_unl _) fun d => ?_
  · have : L.map (fun p => keyD p.2) = (L.map (·.2)).map keyD := by rw [List.map_map]; rfl
    rw [this]
    exact List.pairwise_map.mpr (nd.imp fun {a b} h e => h (keyD_inj e))
  · rw [mem_unl, List.mem_map, List.mem_map]
    constructor
    · rintro ⟨p, hp, e⟩
      exact ⟨p, List.mem_of_mem_take (g.sub p hp), e⟩
    · rintro ⟨p, hp, e⟩
      obtain ⟨r, hr, er⟩ := List.mem_map.mp (g.all p (by rw [List.take_length]; exact hp))
      exact ⟨r, hr, by rw [er, e]⟩
theorem ints_perm {is ns : List Int} (nd : ns.Nodup) (h : ∀ k, k ∈ ns ↔ k ∈ is) : (ns.map PyData.int).Perm (unl (is.map .int)) := by
  refine same_perm (List.pairwise_map.mpr (nd.imp fun {a b} h e => h (by cases e; rfl))) (nodup_unl _) fun d => ?_
  rw [mem_unl, List.mem_map, List.mem_map]
  constructor
  · rintro ⟨p, hp, e⟩; exact ⟨p, (h p).mp hp, e⟩
  · rintro ⟨p, hp, e⟩; exact ⟨p, (h p).mpr hp, e⟩
theorem num_keys : ∀ is : List Int, is.map PyData.int = (is.map NestedKey.num).map keyD
  | [] => rfl
  | i :: is => by rw [List.map_cons, List.map_cons, List.map_cons, num_keys is]; rfl
theorem al_perm {ds es : List PyData} (p : ds.Perm es) (h : PySem.W.AllAlike es) : PySem.W.AllAlike ds := fun d hd e he => h d (p.mem_iff.mp hd) e (p.mem_iff.mp he)
/-- a rising list of numbers is sorted -/
theorem srt_rising {ns : List Int} (h : ns.Pairwise (· < ·)) : srtD (ns.map .int) = ns.map .int := by
  unfold srtD
  refine List.mergeSort_of_pairwise ?_
  refine List.pairwise_map.mpr (h.imp fun {a b} hab => ?_)
  have := congrFun (congrFun (PySem.W.dataLe_int (fun b : Int => b)) a) b
  show PySem.W.dataLe false id (.int a) (.int b) = true
  have e : PySem.W.dataLe false id (PyData.int a) (PyData.int b) = decide (a ≤ b) := this
  rw [e]
  exact decide_eq_true (by omega)
/-- sorted(the set) -/
theorem sorted_set_run {C : Ctx} (hc : X.calm = true) (hu : X.A.units + 66 < cLine) (I : Inv X pins σ H s) {W : Wd} {S : Store} (sr : SR X.K C W S H) {a : Addr} {ds : List PyData} (h : SetAtD X W s.heap a ds) (few : (unl ds).length < 64) (ok : SrtOk (unl ds)) {Q : V → Hp → Prop}
    (q : ∀ vs, RVs X.K W ((srtD (unl ds)).map .d) vs → ∀ p, H p = none → Q (.ref p) (upd H p (.lst vs))) : wpAny (model X.prog X.w) X.A (call (.builtin "sorted") [.ref a]) (EP X pins σ Q) X.xe s := by
  have hd := I.ok.hd hc
  rcases h with ⟨is, rfl, c, R⟩ | ⟨ps, rfl, hz, L, es, ep, t, R, g⟩
  · have hc64 : c < 64 := by
      obtain ⟨o, es, ep, t, _, _, _, _, nd, hm, _, _, hn, _⟩ := id R
      have p := ints_perm (is := is) nd (fun k => by rw [← hm k, decide_eq_true_eq])
      have := p.length_eq
      rw [List.length_map, List.length_map, Array.length_toList] at this
      omega
    refine sorted_set R hd hc64 fun s2 p out c2 ns k e1 e2 hp hg hI pw hm _ => ?_
    have hn : H p = none := I.hok.fresh hp
    have nd : ns.Nodup := pw.imp fun h e => by omega
    have pp := ints_perm (is := is) nd (fun k => by rw [hm k, decide_eq_true_eq])
    have es : srtD (unl (is.map .int)) = ns.map .int := by
      rw [← srt_rising pw]
      obtain ⟨M, pm, eM⟩ := perm_map (f := PyData.int) (L := ns) pp.symm
      rw [eM, num_keys, num_keys]
      refine sort_perm (pm.map _) (fun k hk => ?_) ?_
      · obtain ⟨i, _, rfl⟩ := List.mem_map.mp hk; rfl
      · rw [← num_keys, ← eM]; exact ok.al
    have rv : RVs X.K W ((srtD (unl (is.map .int))).map .d) (ns.map V.int) := by rw [es]; exact rvs_of_ints ns
    have hl : (ns.map V.int).length ≤ sizeLine := by
      have := pp.length_eq
      rw [List.length_map] at this
      rw [List.length_map, this, sizeLine_eq]; omega
    have J : Inv X pins σ (upd H p (.lst (ns.map V.int))) { s with heap := s2.heap, gens := s2.gens, drawn := s2.drawn, toks := s2.toks } :=
      I.call (ch := []) (Un.laid k hp hn) (I.hok.laid k hp ⟨hl, out.toList, c2, ints_vals hI, hg⟩) (by rw [e1]; exact I.bare) (fun _ z => nomatch z)
    have e : s2 = { s with heap := s2.heap, gens := s2.gens, drawn := s2.drawn, toks := s2.toks } := by
      cases s2; cases s; cases e2; rfl
    rw [e]
    exact ⟨.ref p, _, J, rfl, q _ rv p hn⟩
  · obtain ⟨o, g1, g2, g3⟩ := R.obj
    have kp := keys_perm g R.nd
    have sub : ∀ p ∈ L, p ∈ ps := fun p hp => List.mem_of_mem_take (g.sub p hp)
    have fewL := R.few
    have es2 : es.toList.map (·.2) = L.map fun p => Value.ref p.1 := by rw [R.ents, entsN, List.map_map]; rfl
    have alL : ∀ M : List (Addr × NestedKey), M.Perm L → PySem.W.AllAlike (M.map fun p => keyD p.2) ∧ RT.Srtb (M.map fun p => keyD p.2) ∧ srtD (M.map fun p => keyD p.2) = srtD (unl (ps.map fun p => keyD p.2)) := fun M pm => by
      have pq := (pm.map fun p => keyD p.2).trans kp
      have al := al_perm pq ok.al
      refine ⟨al, ?_, ?_⟩
      · rcases ok.so with h | h
        · exact .inl fun d hd => h d (pq.mem_iff.mp hd)
        · exact .inr fun d hd => h d (pq.mem_iff.mp hd)
      · obtain ⟨M2, pm2, eM⟩ := perm_map (f := fun p : Addr × NestedKey => keyD p.2) (L := M) pq.symm
        have f : ∀ M : List (Addr × NestedKey), M.map (fun p => keyD p.2) = (M.map (·.2)).map keyD := fun M => by rw [List.map_map]; rfl
        rw [eM, f, f]
        refine sort_perm (pm2.symm.map _) (fun k hk => ?_) (by rw [← f]; exact al)
        obtain ⟨r, hr, rfl⟩ := List.mem_map.mp hk
        exact (hz r (sub r (pm.mem_iff.mp hr))).2
    refine sorted_any2 (R := fun u (b : Addr × NestedKey) => u = Value.ref b.1) (enc := fun b => keyD b.2) (U := fun us bs => us = bs.map (fun p => Value.ref p.1) ∧ bs.Perm L) (fun {T} k => ?_) (fun us bs u => ?_) fun us bs out p s2 c u eo k2 hp e1 e2 hg => ?_
    · refine collect_set (A := X.A.in1) (by simp [hd]) ⟨o, g1, g2.1, g3⟩ R.fits (by rw [sizeN R.ents]; unfold scanBound; omega) R.tab.ris R.led fun s1 vs k1 hz1 e1 o1 pm => ?_
      rw [es2] at pm
      obtain ⟨M, pM, eM⟩ := perm_map pm
      exact k s1 vs M k1 hz1 e1 o1 ⟨eM, pM⟩
    · obtain ⟨rfl, pm⟩ := u
      obtain ⟨a1, a2, a3⟩ := alL bs pm
      have each : ∀ M : List (Addr × NestedKey), (∀ p ∈ M, p ∈ ps) → PySem.W.EachIs (fun v (b : Addr × NestedKey) => ∃ as, PySem.Reads s.heap v (keyD b.2) as) (M.map fun p => Value.ref p.1) M := by
        intro M hM
        induction M with
        | nil => exact .nil
        | cons p M ih => exact .cons (Dp.reads I _ _ _ (dzAll_dp1 (dz_mono sr.sub (hz p (hM p (by simp))).1)) rfl) (ih fun r hr => hM r (by simp [hr]))
      have same : ∀ M : List (Addr × NestedKey), PySem.W.EachIs (fun u (b : Addr × NestedKey) => u = Value.ref b.1) (M.map fun p => Value.ref p.1) M := by
        intro M
        induction M with
        | nil => exact .nil
        | cons p M ih => exact .cons rfl ih
      refine ⟨same bs, each bs fun p hp => sub p (pm.mem_iff.mp hp), a1, a2, by rw [pm.length_eq, sizeLine_eq]; omega, fun b hb => ?_⟩
      have := ok.dep (keyD b.2) (kp.mem_iff.mp (List.mem_map.mpr ⟨b, pm.mem_iff.mp hb, rfl⟩))
      omega
    · obtain ⟨rfl, pm⟩ := u
      obtain ⟨a1, a2, a3⟩ := alL bs pm
      have hn : H p = none := I.hok.fresh hp
      generalize hM : bs.mergeSort (PySem.W.dataLe false fun b => keyD b.2) = M at eo
      have pM : M.Perm L := by rw [← hM]; exact (List.mergeSort_perm _ _).trans pm
      have eD : M.map (fun p => keyD p.2) = srtD (unl (ps.map fun p => keyD p.2)) := by
        rw [← a3, ← hM]
        exact PySem.W.sort_maps (r := PySem.W.dataLe false fun b : Addr × NestedKey => keyD b.2) (s := PySem.W.dataLe false id) (fun b : Addr × NestedKey => keyD b.2) (l := bs) (fun a _ b _ => rfl)
      have eU : out = M.map fun p => Value.ref p.1 := each_eq eo
      have vv : ∀ M : List (Addr × NestedKey), Vals (M.map fun p => V.ref p.1) (M.map fun p => Value.ref p.1) := by
        intro M
        induction M with
        | nil => exact .nil
        | cons p M ih => exact .cons rfl ih
      have rv : RVs X.K W ((srtD (unl (ps.map fun p => keyD p.2))).map .d) (M.map fun p => V.ref p.1) := by
        rw [← eD]
        have : ∀ M : List (Addr × NestedKey), (∀ p ∈ M, p ∈ ps) → RVs X.K W ((M.map fun p => keyD p.2).map .d) (M.map fun p => V.ref p.1) := by
          intro M hM
          induction M with
          | nil => exact .nil
          | cons p M ih => exact .cons ⟨(hz p (hM p (by simp))).1, numK_lay (hz p (hM p (by simp))).2⟩ (ih fun r hr => hM r (by simp [hr]))
        exact this M fun p hp => sub p (pM.mem_iff.mp hp)
      have hl : (M.map fun p => V.ref p.1).length ≤ sizeLine := by rw [List.length_map, pM.length_eq, sizeLine_eq]; omega
      have J : Inv X pins σ (upd H p (.lst (M.map fun p => V.ref p.1))) { s with heap := s2.heap, gens := s2.gens, drawn := s2.drawn, toks := s2.toks } :=
        I.call (ch := []) (Un.laid k2 hp hn) (I.hok.laid k2 hp ⟨hl, out, c, by rw [eU]; exact vv M, hg⟩) (by rw [e1]; exact I.bare) (fun _ z => nomatch z)
      have e : s2 = { s with heap := s2.heap, gens := s2.gens, drawn := s2.drawn, toks := s2.toks } := by
        cases s2; cases s; cases e2; rfl
      rw [e]
      exact ⟨.ref p, _, J, rfl, q _ rv p hn⟩
end
end DL

namespace SN
open PySem PySem.Spec PyProof.Rows L2
open Classical in
noncomputable def unlS : List Str → List Str
  | [] => []
  | x :: r => x :: (unlS r).filter fun y => decide (y ≠ x)
section
variable {P : Program} {w : World} {A : Around} {E : Value → Shared → Prop} {s : Shared}
/-- how many unlike texts a set has got: S tells which -/
def CntS (xs : List Str) (n : Nat) : Prop := ∃ l : List Str, l.Nodup ∧ (∀ k, k ∈ l ↔ k ∈ xs) ∧ l.length = n
theorem CntS.le {xs : List Str} {n : Nat} (h : CntS xs n) : n ≤ xs.length := by
  obtain ⟨l, nd, m, rfl⟩ := h
  exact DL.pigeon nd fun k hk => (m k).mp hk
theorem update_str {I : Addr} {fp wr : List Addr} {G : Array GenState → Array GenState → Prop} {n : Nat} {Pv : Nat → Value → Prop} {St : Nat → Shared → Prop} {R : Result → Shared → Prop}
    (W : WalksS P w A.in1 I fp wr G n Pv St) (S : Addr) (hSf : S ∉ fp) (xs : List Str) (hn : n = xs.length) (hb : xs.length + 1 < scanBound) (hval : ∀ i v, Pv i v → ∃ z t, xs[i]? = some z ∧ v = .str z t)
    (h0 : Heap) (hS0 : h0.get? S = none) (hw0 : ∀ b ∈ wr, h0.get? b = none) :
    ∀ (k i : Nat) (s : Shared), n - i = k → i ≤ n → St i s → (∀ b o, h0.get? b = some o → s.heap.get? b = some o) → (∃ c, s.heap.SetOf (PySem.strKind P w) S (fun z => decide (z ∈ xs.take i)) c ∧ CntS (xs.take i) c) →
      (∀ s2 c, Moved (S :: wr) G s s2 → s2.heap.SetOf (PySem.strKind P w) S (fun z => decide (z ∈ xs)) c → CntS xs c → (∀ b o, h0.get? b = some o → s2.heap.get? b = some o) → R (.ok (.ret .none)) s2) →
      codeAny (model P w) A (.builtin "set.update.loop" ⟨[.ref S, .ref I], []⟩) R s := by
  have hSw : S ∉ wr := fun h => hSf (W.sub _ h)
  have up : ∀ b ∈ wr, b ∈ S :: wr := fun b hb => List.mem_cons_of_mem _ hb
  have stay : ∀ {s s2 : Shared}, Moved wr G s s2 → (∀ b o, h0.get? b = some o → s.heap.get? b = some o) → ∀ b o, h0.get? b = some o → s2.heap.get? b = some o := fun hm q b o e =>
    hm.heap b o (fun hb => by rw [hw0 b hb] at e; cases e) (q b o e)
  have move : ∀ {h h2 : Heap} {T : Str → Bool} {c : Nat}, h.SetOf (PySem.strKind P w) S T c → (∀ o, h.get? S = some o → h2.get? S = some o) → h2.SetOf (PySem.strKind P w) S T c := fun x k => by
    obtain ⟨o, es, ep, t, q, r⟩ := x
    exact ⟨o, es, ep, t, k o q, r⟩
  intro k
  induction k with
  | zero =>
    intro i s hk2 hi hst q ⟨c, hS, hc⟩ hR
    have ein : i = n := by omega
    subst ein
    refine codeAny_builtin F.entry_set_update_loop ?_
    rw [Around.under_plainId F.plain_set_update_loop _]
    show wpAny _ A.in1 (pyNext (.ref I) >>= _) _ _ s
    refine wpAny_bind (W.done s _ _ hst fun s2 hm => ?_)
    show wpAny _ A.in1 (ret Value.none) _ _ s2
    have e : xs.take i = xs := List.take_of_length_le (by omega)
    rw [e] at hS hc
    exact wpAny_pure (hR s2 c (hm.mono up) (move hS fun o e => hm.heap S o hSw e) hc (stay hm q))
  | succ k ih =>
    intro i s hk2 hi hst q ⟨c, hS, hc⟩ hR
    have lt : i < n := by omega
    refine codeAny_builtin F.entry_set_update_loop ?_
    rw [Around.under_plainId F.plain_set_update_loop _]
    show wpAny _ A.in1 (pyNext (.ref I) >>= _) _ _ s
    refine wpAny_bind (W.item i s _ _ lt hst fun v s2 hP hst2 hm => ?_)
    obtain ⟨z, tz, hz, rfl⟩ := hval i v hP
    have q2 := stay hm q
    have S2 := move (h2 := s2.heap) hS fun o e => hm.heap S o hSw e
    have ez := take_next hz
    have lec : c ≤ i := by have := hc.le; rw [List.length_take] at this; omega
    show wpAny _ A.in1 (holding [Value.str z tz] (setAdd S (.str z tz)) >>= _) _ _ s2
    refine wpAny_bind (wpAny_holding ?_)
    unfold setAdd
    refine wpAny_holding ?_
    refine wpAny_bind ((PySem.strKind P w).pyHash (k := z) (PySem.strKind_is P w z tz) ?_)
    refine wpAny_setAddHashed_of (knd := PySem.strKind P w) (s := { s2 with toks := s2.toks + 1 }) (PySem.strKind_is P w z tz) rfl S2 (by omega) fun h2 hsb S3 => ?_
    have q3 : ∀ b o, h0.get? b = some o → h2.get? b = some o := fun b o e => (hsb.2 b (fun z => by rw [z, hS0] at e; cases e)).trans (q2 b o e)
    have S4 : ∃ c, h2.SetOf (PySem.strKind P w) S (fun y => decide (y ∈ xs.take (i + 1))) c ∧ CntS (xs.take (i + 1)) c := by
      refine ⟨_, PyProof.Rows.SetOf_congr S3 (fun y => ?_) rfl, ?_⟩
      · rw [ez]; simp
      · obtain ⟨l, nd, m, el⟩ := hc
        rw [ez]
        by_cases hm : z ∈ xs.take i
        · refine ⟨l, nd, fun y => ?_, by simp [hm, el]⟩
          rw [m y, List.mem_append, List.mem_singleton]
          constructor
          · exact .inl
          · rintro (h | h)
            · exact h
            · rw [h]; exact hm
        · refine ⟨z :: l, List.nodup_cons.mpr ⟨fun h => hm ((m z).mp h), nd⟩, fun y => ?_, by simp [hm, el]⟩
          rw [List.mem_cons, m y, List.mem_append, List.mem_singleton]
          constructor <;> (rintro (h | h) <;> simp [h])
    refine wpAny_pure ⟨plainId_quiet F.plain_set_update_loop _, ih (i + 1) _ (by omega) lt (W.frame _ s2 _ _ hst2 (Nat.le_add_right _ _) fun b hb o e => ?_) q3 S4 fun s3 c3 hm3 R3 g3 q4 => ?_⟩
    · rw [hsb.2 b (fun h : b = S => hSf (by rw [← h]; exact hb))]; exact e
    · refine hR s3 c3 (Moved.trans W.gtrans ((hm.mono up).then_heap (Nat.le_add_right _ _) fun b o hb e => ?_) hm3) R3 g3 q4
      rw [hsb.2 b (fun h : b = S => hb (by rw [h]; exact List.mem_cons_self))]; exact e

theorem strs_at : ∀ {us : List Value} {xs : List Str} {i : Nat} {v : Value}, StrsAre us xs → us[i]? = some v → ∃ z t, xs[i]? = some z ∧ v = .str z t
  | _, _, 0, _, .cons z t _, h => by cases h; exact ⟨z, t, rfl, rfl⟩
  | _, _, i + 1, _, .cons z t r, h => strs_at (i := i) r h
  | _, _, i, _, .nil, h => by simp at h
theorem loopS_L {l : Addr} {items : Array Value} (hl : s.heap.IsList l items) {B : Around} (hb : B.handled = none) (xs : List Str) (hit : StrsAre items.toList xs) (few : xs.length + 1 < scanBound) :
    LoopOk P w B { s with heap := (s.heap.push (frS w)).push { cls := .type "list_iterator", data := .fields #[.ref l, .int 0 0] } } s.heap.objs.size (s.heap.push (frS w)).objs.size
      (fun h2 => ∃ c, h2.SetOf (PySem.strKind P w) s.heap.objs.size (fun z => decide (z ∈ xs)) c ∧ CntS xs c ∧ ∀ b o, s.heap.get? b = some o → h2.get? b = some o) := by
  intro R hR
  have isz : items.size = xs.length := by rw [← Array.length_toList]; exact StrsAre.length hit
  obtain ⟨o0, o1, _⟩ := id hl
  have lt := Heap.lt_size o1
  have h3 : B.in1.handled = none := by simp [hb]
  have at1 : (s.heap.push (frS w)).get? s.heap.objs.size = some (frS w) := Heap.get?_push_size _ rfl
  have nI : l ≠ (s.heap.push (frS w)).objs.size := by rw [Heap.size_push]; exact Nat.ne_of_lt (Nat.lt_succ_of_lt lt)
  have nS : s.heap.objs.size ∉ [(s.heap.push (frS w)).objs.size, l] := by
    rw [Heap.size_push]
    simp only [List.mem_cons, List.mem_singleton, List.not_mem_nil, or_false, not_or]
    exact ⟨Nat.ne_of_lt (Nat.lt_succ_self _), Nat.ne_of_gt lt⟩
  have val : ∀ (i : Nat) (v : Value), items[i]? = some v → ∃ z t, xs[i]? = some z ∧ v = .str z t := fun i v hv => by
    have q : items.toList[i]? = some v := by rw [Array.getElem?_toList]; exact hv
    exact strs_at hit q
  have free : ∀ b, s.heap.objs.size ≤ b → s.heap.get? b = none := fun b hb => by
    cases q : s.heap.get? b with
    | none => rfl
    | some o => exact absurd (Nat.lt_of_lt_of_le (Heap.lt_size q) hb) (Nat.lt_irrefl _)
  have o5 : (s.heap.push (frS w)).IsList l items := hl.push _
  refine update_str ((Walks.list h3 _ l nI items).toS) s.heap.objs.size nS xs isz few val s.heap (free _ (Nat.le_refl _)) (fun b hb => free b (by
      rw [List.mem_singleton.mp hb, Heap.size_push]
      exact Nat.le_succ _)) (items.size - 0) 0 _ (by omega) (Nat.zero_le _) ⟨⟨_, Heap.get?_push_size _ rfl, rfl, rfl⟩, (o5.push _)⟩ (fun b o e => Heap.get?_push_of_some _ (Heap.get?_push_of_some _ e)) ?_ ?_
  · refine ⟨0, PyProof.Rows.SetOf_congr ((PyProof.Rows.setObjOf_fresh (knd := PySem.strKind P w) _).setOf (Heap.get?_push_of_some _ at1) (by unfold scanBound; omega)) (fun z => ?_) rfl, [], .nil, fun k => by simp, rfl⟩
    simp
  · intro s2 c hm R2 g q
    obtain ⟨h2, g2, d2, k2, os2⟩ := s2
    have eg : g2 = s.gens := hm.gens
    have ed : d2 = s.drawn := hm.drawn
    have eo : os2 = s.os := hm.os
    subst eg; subst ed; subst eo
    exact hR _ _ ⟨c, R2, g, q⟩

theorem loopS_T {l : Addr} {items : Array Value} (hl : s.heap.IsTuple l items) {B : Around} (hb : B.handled = none) (xs : List Str) (hit : StrsAre items.toList xs) (few : xs.length + 1 < scanBound) :
    LoopOk P w B { s with heap := (s.heap.push (frS w)).push { cls := .type "tuple_iterator", data := .fields #[.ref l, .int 0 0] } } s.heap.objs.size (s.heap.push (frS w)).objs.size
      (fun h2 => ∃ c, h2.SetOf (PySem.strKind P w) s.heap.objs.size (fun z => decide (z ∈ xs)) c ∧ CntS xs c ∧ ∀ b o, s.heap.get? b = some o → h2.get? b = some o) := by
  intro R hR
  have isz : items.size = xs.length := by rw [← Array.length_toList]; exact StrsAre.length hit
  obtain ⟨o0, o1, _⟩ := id hl
  have lt := Heap.lt_size o1
  have h3 : B.in1.handled = none := by simp [hb]
  have at1 : (s.heap.push (frS w)).get? s.heap.objs.size = some (frS w) := Heap.get?_push_size _ rfl
  have nI : l ≠ (s.heap.push (frS w)).objs.size := by rw [Heap.size_push]; exact Nat.ne_of_lt (Nat.lt_succ_of_lt lt)
  have nS : s.heap.objs.size ∉ [(s.heap.push (frS w)).objs.size, l] := by
    rw [Heap.size_push]
    simp only [List.mem_cons, List.mem_singleton, List.not_mem_nil, or_false, not_or]
    exact ⟨Nat.ne_of_lt (Nat.lt_succ_self _), Nat.ne_of_gt lt⟩
  have val : ∀ (i : Nat) (v : Value), items[i]? = some v → ∃ z t, xs[i]? = some z ∧ v = .str z t := fun i v hv => by
    have q : items.toList[i]? = some v := by rw [Array.getElem?_toList]; exact hv
    exact strs_at hit q
  have free : ∀ b, s.heap.objs.size ≤ b → s.heap.get? b = none := fun b hb => by
    cases q : s.heap.get? b with
    | none => rfl
    | some o => exact absurd (Nat.lt_of_lt_of_le (Heap.lt_size q) hb) (Nat.lt_irrefl _)
  have o5 : (s.heap.push (frS w)).IsTuple l items := hl.push _
  refine update_str ((Walks.tuple h3 _ l nI items).toS) s.heap.objs.size nS xs isz few val s.heap (free _ (Nat.le_refl _)) (fun b hb => free b (by
      rw [List.mem_singleton.mp hb, Heap.size_push]
      exact Nat.le_succ _)) (items.size - 0) 0 _ (by omega) (Nat.zero_le _) ⟨⟨_, Heap.get?_push_size _ rfl, rfl, rfl⟩, (o5.push _)⟩ (fun b o e => Heap.get?_push_of_some _ (Heap.get?_push_of_some _ e)) ?_ ?_
  · refine ⟨0, PyProof.Rows.SetOf_congr ((PyProof.Rows.setObjOf_fresh (knd := PySem.strKind P w) _).setOf (Heap.get?_push_of_some _ at1) (by unfold scanBound; omega)) (fun z => ?_) rfl, [], .nil, fun k => by simp, rfl⟩
    simp
  · intro s2 c hm R2 g q
    obtain ⟨h2, g2, d2, k2, os2⟩ := s2
    have eg : g2 = s.gens := hm.gens
    have ed : d2 = s.drawn := hm.drawn
    have eo : os2 = s.os := hm.os
    subst eg; subst ed; subst eo
    exact hR _ _ ⟨c, R2, g, q⟩

end
end SN
namespace DL
open PySem PySem.Spec PyProof.Rows L2 SN
section
variable {X : Cx} {C : Ctx} {Ex : L2.St → XD}
theorem d_srtset {e : Expr} {m : Bool} {ev : Rho → M Vl} {p p2 pos pos2 : Pos} (hc : X.calm = true) (hu : X.A.units + 66 < cLine) (hg : Gl X "sorted") (hm : X.mg "sorted" = none) (hg2 : Gl X "set") (hm2 : X.mg "set" = none) (he : PEd X C Ex e ev)
    (hs : starEach [e] X.env = (false, eval e X.env) :: starEach [] X.env)
    (hs2 : starEach [.Call (.Name "set" p2) [e] [] pos2] X.env = (false, eval (.Call (.Name "set" p2) [e] [] pos2) X.env) :: starEach [] X.env) :
    PEd X C Ex (.Call (.Name "sorted" p) [.Call (.Name "set" p2) [e] [] pos2] [] pos) (fun ρ => bnd (ev ρ) (srtsetV m)) := by
  refine ⟨fun pins s σ H Q I h => ?_⟩
  obtain ⟨W, S, ρ, sr, r, q⟩ := h
  refine Call_ (ld_blt I hg hm boot_sorted ?_)
  refine callWith_builtin1 (args_cons ?_ hs2) hs2 rfl
  refine Call_ (ld_blt I hg2 hm2 boot_set ?_)
  refine callWith_type1 (args_cons (thn (he.run pins s σ H (fun x H1 => ∃ W1 S1 a ds, SR X.K C W1 S1 H1 ∧ RV X.K W1 a x ∧ seqD S1 a = some ds ∧ SetOk ds ∧ SrtOk (unl ds) ∧ Run X.K C (Ex σ) (RV X.K) (newL m ((srtD (unl ds)).map .d) S1) W1 S1 H1 Q) I (dT.one sr r q fun a S1 W1 H1 x l1 s1 r1 ra q => ?_)) fun v s1 ⟨x, H1, I1, rx, W1, S1, a, ds, s1', ra, e, ok, ok2, q⟩ => args_nil ?_) hs) hs rfl
  · unfold srtsetV at q
    cases e : seqD S1 a with
    | none => simp only [e] at q; exact q.elim
    | some ds =>
      simp only [e] at q
      by_cases ok : SetOk ds ∧ SrtOk (unl ds)
      · rw [if_pos ok] at q
        exact ⟨W1, S1, a, ds, s1, ra, e, ok.1, ok.2, q⟩
      · rw [if_neg ok] at q; exact q.elim
  · refine set_run hc hu I1 s1' ra rx e ok fun h2 tk k hS => args_nil ?_
    have I2 : Inv X pins σ H1 { s1 with heap := h2, toks := tk } := I1.kept k
    exact sorted_set_run hc hu I2 s1' hS ok.1 ok2 fun vs rv => (newL_run s1' rv q).2
theorem len_fin {pins : List (Addr × Obj)} {σ : L2.St} {H : Hp} {s : Shared} {Q : V → Hp → Prop} {a : Addr} {n : Nat} (I : Inv X pins σ H s) (h : ∃ o es ep t, s.heap.get? a = some o ∧ o.ExactSet ∧ o.data = .set es ep t ∧ t.fits es.size = true ∧ es.size = n) (hn : n ≤ 4000) (q : Q (.int n) H) :
    wpAny (model X.prog X.w) X.A (call (.builtin "len") [.ref a]) (EP X pins σ Q) X.xe s := by
  obtain ⟨o, es, ep, t, h1, h2, h3, h4, h5⟩ := h
  exact call_len_set h1 h2 h3 h4 (by rw [h5]; omega) ⟨.int n, H, I.tok _, ⟨_, by rw [h5]⟩, q⟩
theorem str_inj {zs : List Str} : ∀ {l : List Str}, l.Nodup → (∀ k, k ∈ l ↔ k ∈ zs) → (l.map PyData.str).Perm (unl (zs.map PyData.str)) := fun {l} nd h => by
  refine same_perm (List.pairwise_map.mpr (nd.imp fun {a b} h e => h (by cases e; rfl))) (nodup_unl _) fun d => ?_
  rw [mem_unl, List.mem_map, List.mem_map]
  constructor
  · rintro ⟨p, hp, e⟩; exact ⟨p, (h p).mp hp, e⟩
  · rintro ⟨p, hp, e⟩; exact ⟨p, (h p).mpr hp, e⟩
theorem vals_strs : ∀ {zs : List Str} {us : List Value}, Vals (zs.map V.str) us → StrsAre us zs
  | [], _, .nil => .nil
  | z :: zs, _, .cons r t => by obtain ⟨k, rfl⟩ := r; exact .cons z k (vals_strs t)
theorem d_lenset {e : Expr} {ev : Rho → M Vl} {p p2 pos pos2 : Pos} (hc : X.calm = true) (hu : X.A.units + 66 < cLine) (hg : Gl X "len") (hm : X.mg "len" = none) (hg2 : Gl X "set") (hm2 : X.mg "set" = none) (he : PEd X C Ex e ev)
    (hs : starEach [e] X.env = (false, eval e X.env) :: starEach [] X.env)
    (hs2 : starEach [.Call (.Name "set" p2) [e] [] pos2] X.env = (false, eval (.Call (.Name "set" p2) [e] [] pos2) X.env) :: starEach [] X.env) :
    PEd X C Ex (.Call (.Name "len" p) [.Call (.Name "set" p2) [e] [] pos2] [] pos) (fun ρ => bnd (ev ρ) lensetV) := by
  refine ⟨fun pins s σ H Q I h => ?_⟩
  obtain ⟨W, S, ρ, sr, r, q⟩ := h
  refine Call_ (ld_blt I hg hm boot_len ?_)
  refine callWith_builtin1 (args_cons ?_ hs2) hs2 rfl
  refine Call_ (ld_blt I hg2 hm2 boot_set ?_)
  refine callWith_type1 (args_cons (thn (he.run pins s σ H (fun x H1 => ∃ W1 S1 a ds, SR X.K C W1 S1 H1 ∧ RV X.K W1 a x ∧ seqD S1 a = some ds ∧ (SetOk ds ∨ ∃ zs : List Str, ds = zs.map .str ∧ zs.length < 4000) ∧ Run X.K C (Ex σ) (RV X.K) (.ok (.d (.int (unl ds).length)) S1) W1 S1 H1 Q) I (dT.one sr r q fun a S1 W1 H1 x l1 s1 r1 ra q => ?_)) fun v s1 ⟨x, H1, I1, rx, W1, S1, a, ds, s1', ra, e, ok, q⟩ => args_nil ?_) hs) hs rfl
  · unfold lensetV at q
    cases e : seqD S1 a with
    | none => simp only [e] at q; exact q.elim
    | some ds =>
      simp only [e] at q
      by_cases ok : SetOk ds ∨ ∃ zs : List Str, ds = zs.map .str ∧ zs.length < 4000
      · rw [if_pos ok] at q
        exact ⟨W1, S1, a, ds, s1, ra, e, ok, q⟩
      · rw [if_neg ok] at q; exact q.elim
  · have q := Run.int s1' q
    rcases ok with ok | ⟨zs, rfl, hl⟩
    · refine set_run hc hu I1 s1' ra rx e ok fun h2 tk k hS => args_nil ?_
      have I2 : Inv X pins σ H1 { s1 with heap := h2, toks := tk } := I1.kept k
      refine len_fin (n := (unl ds).length) I2 ?_ (by have := ok.1; omega) q
      rcases hS with ⟨is, rfl, c, o, es, ep, t, h1, h2, h3, h4, nd, hmm, _, hf, hn, _⟩ | ⟨ps, rfl, _, L, es, ep, t, R, g⟩
      · have pp := ints_perm (is := is) nd (fun k => by rw [← hmm k, decide_eq_true_eq])
        have := pp.length_eq
        rw [List.length_map, List.length_map, Array.length_toList] at this
        exact ⟨o, es, ep, t, h1, h2, h3, hf, this⟩
      · obtain ⟨o, g1, g2, g3⟩ := R.obj
        have := (keys_perm g R.nd).length_eq
        rw [List.length_map] at this
        exact ⟨o, es, ep, t, g1, g2, g3, SetN.fits (s := { s1 with heap := h2, toks := tk }) R, by rw [sizeN R.ents, this]⟩
    · obtain ⟨p, vs, rfl, hsq, rv⟩ := seqD_at s1' ra e
      cases rx
      obtain ⟨ev, _⟩ := rvs_strs rv
      subst ev
      have hd := I1.ok.hd hc
      have sc : zs.length + 1 < scanBound := by unfold scanBound; omega
      have fin : ∀ {h2 : Heap} {tk : Nat}, (∃ c, h2.SetOf (PySem.strKind X.prog X.w) s1.heap.objs.size (fun z => decide (z ∈ zs)) c ∧ CntS zs c ∧ ∀ b o, s1.heap.get? b = some o → h2.get? b = some o) →
          wpAny (model X.prog X.w) X.A (call (.builtin "len") [.ref s1.heap.objs.size]) (EP X pins σ Q) X.xe { s1 with heap := h2, toks := tk } := fun {h2 tk} ⟨c, hS, ⟨l, nd, hm, hl2⟩, k⟩ => by
        have I2 : Inv X pins σ H1 { s1 with heap := h2, toks := tk } := I1.kept k
        have pl := (str_inj nd hm).length_eq
        rw [List.length_map, hl2] at pl
        obtain ⟨o, es, ep, t, ho, hex, hd, _, _, _, hf, hn⟩ := hS
        have := unl_len (zs.map PyData.str)
        rw [List.length_map] at this
        exact len_fin (n := (unl (zs.map PyData.str)).length) I2 ⟨o, es, ep, t, ho, hex, hd, hf, by rw [hn, pl]⟩ (by omega) q
      rcases hsq with hsq | hsq
      · obtain ⟨its, r, pl, _⟩ := I1.list hsq
        exact call_set_L pl.isList hd (fun B hb _ => loopS_L pl.isList hb zs (by simpa using vals_strs r) sc) fun h2 tk f => args_nil (fin f)
      · obtain ⟨its, r, pl, _⟩ := I1.tuple hsq
        exact call_set_T pl hd (fun B hb _ => loopS_T pl hb zs (by simpa using vals_strs r) sc) fun h2 tk f => args_nil (fin f)
end
end DL


namespace DL
open PySem PySem.Spec PyProof.Rows L2
/-! ### repr -/
theorem sign_ok {q c : Nat} (hc : c < 0x110000) (hq : q < 0x110000) : ∀ k ∈ Builtin.Str.reprChar q c, k < 0x110000 := by
  have hex : ∀ w, ∀ k ∈ List.replicate (w - ((Nat.toDigits 16 c).map Char.toNat).length) 48 ++ (Nat.toDigits 16 c).map Char.toNat, k < 0x110000 := by
    intro w k hk
    rcases List.mem_append.mp hk with hk | hk
    · rw [(List.mem_replicate.mp hk).2]; decide
    · obtain ⟨ch, _, rfl⟩ := List.mem_map.mp hk
      have := ch.valid
      rcases this with h | ⟨_, h⟩
      · exact Nat.lt_trans h (by decide)
      · exact h
  intro k hk
  unfold Builtin.Str.reprChar at hk
  dsimp only at hk
  have two : ∀ {a b : Nat}, a < 0x110000 → b < 0x110000 → k ∈ [a, b] → k < 0x110000 := fun {a b} ha hb h => by
    rcases List.mem_cons.mp h with rfl | h
    · exact ha
    · rw [List.mem_singleton.mp h]; exact hb
  split at hk
  · exact two (by decide) hc hk
  · split at hk
    · exact two (by decide) (by decide) hk
    · split at hk
      · exact two (by decide) (by decide) hk
      · split at hk
        · exact two (by decide) (by decide) hk
        · split at hk
          · rw [List.mem_singleton.mp hk]; exact hc
          · split at hk
            · rcases List.mem_append.mp hk with hk | hk
              · exact two (by decide) (by decide) hk
              · exact hex _ k hk
            · split at hk
              · rcases List.mem_append.mp hk with hk | hk
                · exact two (by decide) (by decide) hk
                · exact hex _ k hk
              · rcases List.mem_append.mp hk with hk | hk
                · exact two (by decide) (by decide) hk
                · exact hex _ k hk
theorem reprText_ok {x : Str} (hx : PyData.strOk x = true) : PyData.strOk (reprText x) = true := by
  rw [strOk_iff] at *
  have hq : reprQuote x < 0x110000 := by
    unfold reprQuote
    split <;> decide
  have go : ∀ (l : List Nat) (acc : Array Nat), (∀ c ∈ l, c < 0x110000) → (∀ c ∈ acc.toList, c < 0x110000) → ∀ c ∈ (l.foldl (fun out c => out ++ (Builtin.Str.reprChar (reprQuote x) c).toArray) acc).toList, c < 0x110000 := by
    intro l
    induction l with
    | nil => intro acc _ h; exact h
    | cons a l ih =>
      intro acc h1 h2
      refine ih _ (fun c hc => h1 c (by simp [hc])) fun c hc => ?_
      rw [Array.toList_append] at hc
      rcases List.mem_append.mp hc with hc | hc
      · exact h2 c hc
      · exact sign_ok (h1 a (by simp)) hq c hc
  intro c hc
  unfold reprText at hc
  simp only [Array.toList_push] at hc
  rcases List.mem_append.mp hc with hc | hc
  · rw [← Array.foldl_toList] at hc
    refine go x.cps.toList _ hx (fun c hc => ?_) c hc
    have : c = reprQuote x := by simpa using hc
    rw [this]; exact hq
  · rw [List.mem_singleton.mp hc]; exact hq
theorem textFrom_ok : ∀ (ts : List Str) (k : Nat) (acc : Str), PyData.strOk acc = true → (∀ t ∈ ts, PyData.strOk t = true) → PyData.strOk (textFrom k acc ts) = true
  | [], _, _, h, _ => h
  | t :: ts, k, acc, h, ht => by
    refine textFrom_ok ts (k + 1) _ (strOk_app (strOk_app h ?_) (ht t (by simp))) fun x hx => ht x (by simp [hx])
    split <;> decide +kernel
mutual
theorem shown_ok : ∀ d : PyData, d.canLay0 = true → PyData.strOk d.shown = true
  | .none, _ => by simp only [PyData.shown]; decide +kernel
  | .bool b, _ => by cases b <;> simp only [PyData.shown] <;> decide +kernel
  | .int i, _ => by simp only [PyData.shown]; exact strOk_num i
  | .str x, h => by simp only [PyData.shown]; exact reprText_ok (by simpa [PyData.canLay0] using h)
  | .list xs, h => by
    simp only [PyData.shown]
    unfold listText
    exact strOk_app (textFrom_ok _ _ _ (by decide +kernel) (shownAll_ok xs (by simpa [PyData.canLay0] using h))) (by decide +kernel)
  | .tuple xs, h => by
    simp only [PyData.shown]
    unfold tupleText
    refine strOk_app (strOk_app (by decide +kernel) ?_) (by split <;> decide +kernel)
    rw [← PySem.StrLaws.glued_eq_join]
    exact strOk_join (by decide +kernel) (shownAll_ok xs (by simpa [PyData.canLay0] using h))
  | .dict _, h => by simp [PyData.canLay0] at h
theorem shownAll_ok : ∀ xs : List PyData, PyData.canLayAll0 xs = true → ∀ t ∈ PyData.shownAll xs, PyData.strOk t = true
  | [], _ => fun _ h => by simp [PyData.shownAll] at h
  | x :: xs, h => by
    have h : x.canLay0 = true ∧ PyData.canLayAll0 xs = true := by simpa [PyData.canLayAll0] using h
    intro t ht
    simp only [PyData.shownAll] at ht
    rcases List.mem_cons.mp ht with rfl | ht
    · exact shown_ok x h.1
    · exact shownAll_ok xs h.2 t ht
end
theorem noDict_hsm' {d : PyData} {as : List Addr} (h : d.canLay0 = true) : d.hasDict = true → sysModules ∉ as := fun z => by rw [PyData.hasDict_of_canLay d h] at z; cases z
section
variable {X : Cx} {C : Ctx} {Ex : L2.St → XD}
theorem call_repr {pins : List (Addr × Obj)} {σ : L2.St} {H : Hp} {s : Shared} {x : V} {u : Value} {d : PyData} {Q : VK} (I : Inv X pins σ H s) (gd : X.A.guards = some []) (hu : X.A.units + 66 < cLine) (hd : Dp X.K H x d) (r : RelV x u) (c : d.canLay0 = true) (h : d.showable = true ∧ d.depth ≤ 64 ∧ d.shown.length ≤ sizeLine) (q : Q (.str d.shown) H) :
    wpAny (model X.prog X.w) X.A (call (.builtin "repr") [u]) (EP X pins σ Q) X.xe s := by
  obtain ⟨as, rd⟩ := Dp.reads I d x u hd r
  have fin : ∀ {s' : Shared} {t : Tok}, Inv X pins σ H s' → EP X pins σ Q (.str d.shown t) s' := fun J => ⟨.str _, H, J, ⟨_, rfl⟩, q⟩
  have onheap : ∀ {a : Addr}, u = .ref a → wpAny (model X.prog X.w) X.A (call (.builtin "repr") [u]) (EP X pins σ Q) X.xe s := fun {a} e => by
    subst e
    refine repr_of_reads' rd h.1 (noDict_hsm' c) gd (by have := h.2.1; omega) (fun _ _ e => e) (fun h' tu tk kp => fin ((I.kept (t' := tk) kp))) h.2.2
  have e : ∀ {z : Str} {s' : Shared} {t : Tok}, d.shown = z → Inv X pins σ H s' → EP X pins σ Q (.str z t) s' := fun e J => e ▸ fin J
  cases rd with
  | none => exact PySem.P.repr_of_none (e (by simp only [PyData.shown]) (I.tok _))
  | bool b => exact PySem.P.repr_of_bool (e (by simp only [PyData.shown]) (I.tok _))
  | int i t => exact PySem.P.repr_of_int (by simpa [PyData.showable] using h.1) (e (by simp only [PyData.shown]) (I.tok _))
  | str z t => exact PySem.P.repr_of_str (e (by simp only [PyData.shown]) (I.tok _)) (by simpa [PyData.shown] using h.2.2)
  | list _ _ _ _ => exact onheap rfl
  | tuple _ _ _ _ => exact onheap rfl
  | dict _ _ _ _ _ => exact onheap rfl
theorem d_rep {p pos : Pos} {a : Expr} {ev : Rho → M Vl} (gd : X.A.guards = some []) (hu : X.A.units + 66 < cLine) (hg : Gl X "repr") (hm : X.mg "repr" = none) (ha : PEd X C Ex a ev) (he : starEach [a] X.env = (false, eval a X.env) :: starEach [] X.env) : PEd X C Ex (.Call (.Name "repr" p) [a] [] pos) (fun ρ => bnd (ev ρ) repV) := by
  have cr : ∀ σ, CallR X (.builtin "repr") (rN X.K C (Ex σ) (fun as => match as with | [a] => repV a | _ => bad)) := fun σ => CallR.one (fun as S h => by
    match as with
    | [] => rfl
    | [a] => exact absurd rfl (h a)
    | _ :: _ :: _ => rfl) fun pins s σ' H x us Q W S a I r sr ra h => by
    have h : Run X.K C (Ex σ) (RV X.K) (repV a S) W S H Q := h
    obtain ⟨u, rfl, rx⟩ := vals1 r
    unfold repV at h
    cases e : asD S a with
    | none => rw [e] at h; exact h.elim
    | some d =>
      rw [e] at h
      obtain ⟨hd, cd⟩ := asD_at sr ra e
      by_cases hc : d.showable = true ∧ d.depth ≤ 64 ∧ d.shown.length ≤ sizeLine
      · simp only [if_pos hc] at h
        exact call_repr I gd hu hd rx cd hc (Run.now sr h (str_rv (shown_ok d cd)))
      · simp only [if_neg hc] at h; exact h.elim
  refine ⟨fun pins s σ H Q I q => ?_⟩
  refine (pe_callB (cr σ) hg hm (by decide +kernel) (pa_cons ha pa_nil he) (by decide) (by decide) he rfl).run pins s σ H Q I ?_
  obtain ⟨W, S, ρ, s, r, q⟩ := q
  refine dT.one s r q fun x S1 W1 H1 v l1 s1 r1 rx q => ?_
  exact ⟨W1, S1, [x], s1, .cons rx .nil, q⟩
end
end DL

namespace DL
open PySem PySem.Spec PyProof.Rows L2
/-! ### does the text say this: a look at the tree -/
/-- the text's own classes: methods, fields, those that are made -/
structure Kl where
  mets : List (Str × Str)
  atts : List (Str × Str)
  news : List Str
structure Ck where
  N : List Str
  sc : Scope
  s0 : Option Scope
  fs : List Str
  kl : Kl
def Ck.is (c : Ck) (x : Str) (k : NameKind) : Bool := decide (c.sc.names.lookup x = some k)
def Ck.gl (c : Ck) (x : Str) : Bool := c.is x .globalImplicit && !(x == ("__debug__" : Str))
def Ck.vis (c : Ck) (x : Str) : Bool := (c.is x .local || c.is x .cell || c.is x .free) && !(x == ("__debug__" : Str)) && !(x == ("__classdict__" : Str))
def Ck.loc (c : Ck) (x : Str) : Bool := (c.is x .local || c.is x .cell) && (match c.s0 with
  | none => true
  | some s => (s.names.lookup x == some .cell) || c.is x .local)
def Ck.blk (c : Ck) (scope : Scope) : Ck := ⟨c.N, relS scope c.sc, some scope, c.fs, c.kl⟩
/-! views -/
def vName : Expr → Option Str
  | .Name n _ => some n
  | _ => none
def vCon : Expr → Option Const
  | .Constant k _ _ => some k
  | _ => none
def vTup : Expr → Option (List Expr)
  | .Tuple es _ _ => some es
  | _ => none
def vLst : Expr → Option (List Expr)
  | .List es _ => some es
  | _ => none
def vBin : Expr → Option (Expr × Operator × Expr)
  | .BinOp a o b _ => some (a, o, b)
  | _ => none
def vUn : Expr → Option (UnaryOp × Expr)
  | .UnaryOp o a _ => some (o, a)
  | _ => none
def vCmp : Expr → Option (Expr × CmpOp × Expr)
  | .Compare a [o] [b] _ => some (a, o, b)
  | _ => none
def vCh : Expr → Option (Expr × CmpOp × CmpOp × Expr × Expr)
  | .Compare a [o, p] [b, c] _ => some (a, o, p, b, c)
  | _ => none
def vBoo : Expr → Option (BoolOp × Expr × Expr)
  | .BoolOp op [a, b] _ => some (op, a, b)
  | .BoolOp op (a :: b :: c :: r) p => some (op, a, .BoolOp op (b :: c :: r) p)
  | _ => none
def vIfe : Expr → Option (Expr × Expr × Expr)
  | .IfExp c a b _ => some (c, a, b)
  | _ => none
def nSl : Expr → Bool
  | .Slice .. => false
  | _ => true
def vIx : Expr → Option (Expr × Expr)
  | .Subscript a i _ => if nSl i = true then some (a, i) else none
  | _ => none
def vSl : Expr → Option (Expr × Option Expr × Option Expr)
  | .Subscript a (.Slice lo hi none _) _ => some (a, lo, hi)
  | _ => none
/-- e[::-1] -/
def vRev : Expr → Option Expr
  | .Subscript a (.Slice none none (some (.UnaryOp .USub (.Constant (.int 1) _ _) _)) _) _ => some a
  | _ => none
def vComp : Expr → Option (Expr × Expr × Expr × Option Expr × Scope)
  | .ListComp elt [⟨tg, iter, [], 0⟩] scope _ => some (elt, tg, iter, none, scope)
  | .ListComp elt [⟨tg, iter, [c], 0⟩] scope _ => some (elt, tg, iter, some c, scope)
  | _ => none
def vCallN : Expr → Option (Str × List Expr)
  | .Call (.Name f _) es [] _ => some (f, es)
  | _ => none
def vCallA : Expr → Option (Expr × Str × List Expr)
  | .Call (.Attribute o nm ap) es [] cp => if (ap.endLine == cp.line) = true then some (o, nm, es) else none
  | _ => none
def vAtt : Expr → Option (Expr × Str)
  | .Attribute o f _ => some (o, f)
  | _ => none
def vDict : Expr → Option (List (Option Expr) × List Expr)
  | .Dict ks vs _ => some (ks, vs)
  | _ => none
def nStar : Expr → Bool
  | .Starred .. => false
  | _ => true
def nCall : Expr → Bool
  | .Call .. => false
  | _ => true
def nSet : Expr → Bool
  | .Set .. => false
  | _ => true
def cstC : PyData → Const → Bool
  | .none, .none => true
  | .bool a, .bool b => a == b
  | .int a, .int b => decide (a = b)
  | .str a, .str b => decide (a = b) && PyData.canLay0 (.str a)
  | _, _ => false
def keyTs : List Str → List (Option Expr) → Bool
  | [], [] => true
  | x :: xs, some (.Constant (.str y) _ _) :: ys => decide (x = y) && keyTs xs ys
  | _, _ => false
/-- may stand as a test -/
def tst : E → Bool
  | .ife _ _ _ => false
  | .frz _ => false
  | _ => true
def subs (xs ys : List Nat) : Bool := xs.all fun i => ys.contains i
mutual
def chkTg (c : Ck) : Tg → Expr → Bool
  | .nm i, x => match vName x with
    | some n => decide (c.N[i]? = some n) && c.loc n
    | none => false
  | .tp ts, x => match vTup x with
    | some es => chkTgs c ts es
    | none => false
def chkTgs (c : Ck) : Tgs → List Expr → Bool
  | .nil, [] => true
  | .cons t r, x :: xs => nStar x && chkTg c t x && chkTgs c r xs
  | _, _ => false
end
def isiOk (t : Str) (T : String) : Bool := (decide (t = "bool") && decide (T = "bool")) || (decide (t = "int") && decide (T = "int")) || (decide (t = "str") && decide (T = "str")) || (decide (t = "list") && decide (T = "list")) || (decide (t = "tuple") && decide (T = "tuple")) || (decide (t = "dict") && decide (T = "dict"))
mutual
def chkE : E → Ck → Expr → Bool
  | .var i, c, x => match vName x with
    | some n => decide (c.N[i]? = some n) && c.vis n
    | none => false
  | .cst d, _, x => match vCon x with
    | some k => cstC d k
    | none => false
  | .glob g, c, x => match vName x with
    | some n => decide (n = g) && c.gl n
    | none => false
  | .tup es, c, x => match vTup x with
    | some xs => chkEs es c xs
    | none => false
  | .lst _ es, c, x => match vLst x with
    | some xs => chkEs es c xs
    | none => false
  | .bin o a b, c, x => match vBin x with
    | some (l, op, r) => decide (op = o.op) && chkE a c l && chkE b c r
    | none => false
  | .neg a, c, x => match vUn x with
    | some (op, l) => decide (op = .USub) && chkE a c l
    | none => false
  | .cmp o a b, c, x => match vCmp x with
    | some (l, op, r) => decide (op = o.op) && nSet r && chkE a c l && chkE b c r
    | none => false
  | .chain o p a b d, c, x => match vCh x with
    | some (l, op, pp, r, q) => decide (op = o.op) && decide (pp = p.op) && nSet q && chkE a c l && chkE b c r && chkE d c q
    | none => false
  | .band a b, c, x => match vBoo x with
    | some (op, l, r) => decide (op = .And) && tst a && tst b && chkE a c l && chkE b c r
    | none => false
  | .bor a b, c, x => match vBoo x with
    | some (op, l, r) => decide (op = .Or) && tst a && tst b && chkE a c l && chkE b c r
    | none => false
  | .bnot a, c, x => match vUn x with
    | some (op, l) => decide (op = .Not) && tst a && chkE a c l
    | none => false
  | .ife k a b, c, x => match vIfe x with
    | some (t, l, r) => tst k && chkE k c t && chkE a c l && chkE b c r
    | none => false
  | .ix a i, c, x => match vIx x with
    | some (l, r) => chkE a c l && chkE i c r
    | none => false
  | .sl _ a lo hi, c, x => match vSl x with
    | some (l, p, q) => chkE a c l && chkEo lo c p && chkEo hi c q
    | none => false
  | .comp _ own tg it k e, c, x => match vComp x with
    | some (elt, tgt, iter, k', scope) => chkIt it c tgt iter && nSet iter && blkC c.N c.sc scope own && chkTg (c.blk scope) tg tgt && subs (slots tg) (own.map (·.2)) && chkEo k (c.blk scope) k' && (match k with
        | .no => true
        | .yes k => tst k) && chkE e (c.blk scope) elt
    | none => false
  | .call _ f es, c, x => match vCallN x with
    | some (n, xs) => decide (n = f) && c.gl n && c.fs.contains n && !xs.isEmpty && chkEs es c xs
    | none => false
  | .bi b es, c, x => match vCallN x with
    | some (n, xs) => decide (n = b.name) && c.gl n && !xs.isEmpty && chkEs es c xs
    | none => false
  | .mt m o es, c, x => match vCallA x with
    | some (l, nm, xs) => decide (nm = m.name) && nCall l && decide (xs.length < 20) && chkE o c l && chkEs es c xs
    | none => false
  | .isi a T, c, x => match vCallN x with
    | some (n, [l, t]) => (match vName t with
      | some tn => decide (n = "isinstance") && c.gl n && nStar l && isiOk tn T && c.gl tn && chkE a c l
      | none => false)
    | _ => false
  | .disp ks es, c, x => match vDict x with
    | some (keys, vals) => keyTs ks keys && !keys.isEmpty && decide (keys.length ≤ 15) && decide (vals.length = keys.length) && chkEs es c vals
    | none => false
  | .dnew, _, x => match vDict x with
    | some (keys, vals) => keys.isEmpty && vals.isEmpty
    | none => false
  | .lrng1 _ a, c, x => match vCallN x with
    | some (n, [y]) => (match vCallN y with
      | some (r, [l]) => decide (n = "list") && c.gl n && decide (r = "range") && c.gl r && nStar l && chkE a c l
      | _ => false)
    | _ => false
  | .lrng2 _ a b, c, x => match vCallN x with
    | some (n, [y]) => (match vCallN y with
      | some (r, [l, l2]) => decide (n = "list") && c.gl n && decide (r = "range") && c.gl r && nStar l && nStar l2 && chkE a c l && chkE b c l2
      | _ => false)
    | _ => false
  | .lrev _ a, c, x => match vCallN x with
    | some (n, [y]) => (match vCallN y with
      | some (r, [l]) => decide (n = "list") && c.gl n && decide (r = "reversed") && c.gl r && nStar l && chkE a c l
      | _ => false)
    | _ => false
  | .rep a, c, x => match vCallN x with
    | some (n, [l]) => decide (n = "repr") && c.gl n && nStar l && chkE a c l
    | _ => false
  | .frz a, c, x => chkE a c x
  | .srtset _ a, c, x => match vCallN x with
    | some (n, [y]) => (match vCallN y with
      | some (r, [l]) => decide (n = "sorted") && c.gl n && decide (r = "set") && c.gl r && nStar l && chkE a c l
      | _ => false)
    | _ => false
  | .lenset a, c, x => match vCallN x with
    | some (n, [y]) => (match vCallN y with
      | some (r, [l]) => decide (n = "len") && c.gl n && decide (r = "set") && c.gl r && nStar l && chkE a c l
      | _ => false)
    | _ => false
  | .revT a, c, x => match vRev x with
    | some l => chkE a c l
    | none => false
  | .dnewT, _, x => match vDict x with
    | some (keys, vals) => keys.isEmpty && vals.isEmpty
    | none => false
  | .disp1 k v, c, x => match vDict x with
    | some ([some kx], [vx]) => chkE k c kx && chkE v c vx
    | _ => false
  | .zipT a b, c, x => match vCallN x with
    | some (n, [y]) => (match vCallN y with
      | some (z, [l, r]) => decide (n = "tuple") && c.gl n && decide (z = "zip") && c.gl z && nStar l && nStar r && chkE a c l && chkE b c r
      | _ => false)
    | _ => false
  | .fld k o f, c, x => match vAtt x with
    | some (l, g) => decide (g = f) && nSup l && c.kl.atts.contains (k, f) && chkE o c l
    | none => false
  | .meth k o m es, c, x => match vCallA x with
    | some (l, nm, xs) => decide (nm = m) && nSup l && decide (xs.length < 20) && c.kl.mets.contains (k, m) && chkE o c l && chkEs es c xs
    | none => false
  | .new k es, c, x => match vCallN x with
    | some (n, xs) => decide (n = k) && c.gl n && c.kl.news.contains k && !xs.isEmpty && chkEs es c xs
    | none => false
def chkEs : Es → Ck → List Expr → Bool
  | .nil, _, [] => true
  | .cons e r, c, x :: xs => nStar x && chkE e c x && chkEs r c xs
  | _, _, _ => false
def chkEo : Eo → Ck → Option Expr → Bool
  | .no, _, none => true
  | .yes e, c, some x => chkE e c x
  | _, _, _ => false
def chkIt : It → Ck → Expr → Expr → Bool
  | .val e, c, _, x => chkE e c x
  | .rng1 a, c, _, x => match vCallN x with
    | some (n, [l]) => decide (n = "range") && c.gl n && nStar l && chkE a c l
    | _ => false
  | .rng2 a b, c, _, x => match vCallN x with
    | some (n, [l, r]) => decide (n = "range") && c.gl n && nStar l && nStar r && chkE a c l && chkE b c r
    | _ => false
  | .rng3 a b d, c, _, x => match vCallN x with
    | some (n, [l, r, t]) => decide (n = "range") && c.gl n && nStar l && nStar r && nStar t && chkE a c l && chkE b c r && chkE d c t
    | _ => false
  | .enum e, c, tg, x => match vCallN x, vTup tg with
    | some (n, [l]), some _ => decide (n = "enumerate") && c.gl n && nStar l && chkE e c l
    | _, _ => false
  | .zip _ _, _, _, _ => false
  | .rev e, c, _, x => match vCallN x with
    | some (n, [l]) => decide (n = "reversed") && c.gl n && nStar l && chkE e c l
    | _ => false
end
end DL

namespace DL
open PySem PySem.Spec PyProof.Rows L2
/-! ### the look is right -/
structure Gd (P : Pg) (C : Ctx) (c : Ck) (X : Cx) (Wx : WX) : Prop where
  N : X.N = c.N
  hw : C.w = X.w
  nd : X.N.Nodup
  sc : X.env.scope = c.sc
  fn : ∀ x, (match c.s0 with
    | none => true
    | some s => (s.names.lookup x == some .cell)) = true → X.fn x = true
  calm : X.calm = true
  hu : X.A.units + 66 < cLine
  tk : Takes X Wx
  gd : X.A.guards = some []
  gl : ∀ g d, P.glob g = some d → ∃ v u, X.mg g = some u ∧ RelV v u ∧ ∀ W, RV X.K W (.d d) v
  bt : ∀ b : Bi, X.mg b.name = none
  b2 : X.mg "range" = none ∧ X.mg "enumerate" = none ∧ X.mg "reversed" = none ∧ X.mg "zip" = none ∧ X.mg "isinstance" = none ∧ X.mg "sorted" = none ∧ X.mg "set" = none ∧ X.mg "bool" = none ∧ X.mg "dict" = none ∧ X.mg "repr" = none
  cal : ∀ f, c.fs.contains f = true → Cal X C f (P.fn f)
  att : ∀ k f, c.kl.atts.contains (k, f) = true → AttOk X C k f
  mcal : ∀ k m, c.kl.mets.contains (k, m) = true → MCal X C k m (P.fn (mkey k m))
  ncal : ∀ k, c.kl.news.contains k = true → NCal X C k (P.fn (mkey k "__init__"))
theorem vName_eq {x : Expr} {n : Str} (h : vName x = some n) : ∃ p, x = .Name n p := by
  cases x <;> simp [vName] at h
  subst h; exact ⟨_, rfl⟩
theorem vCon_eq {x : Expr} {n : Const} (h : vCon x = some n) : ∃ k p, x = .Constant n k p := by
  cases x <;> simp [vCon] at h
  subst h; exact ⟨_, _, rfl⟩
theorem vTup_eq {x : Expr} {n : List Expr} (h : vTup x = some n) : ∃ k p, x = .Tuple n k p := by
  cases x <;> simp [vTup] at h
  subst h; exact ⟨_, _, rfl⟩
theorem vLst_eq {x : Expr} {n : List Expr} (h : vLst x = some n) : ∃ p, x = .List n p := by
  cases x <;> simp [vLst] at h
  subst h; exact ⟨_, rfl⟩
theorem vBin_eq {x a b : Expr} {o : Operator} (h : vBin x = some (a, o, b)) : ∃ p, x = .BinOp a o b p := by
  cases x <;> simp [vBin] at h
  obtain ⟨rfl, rfl, rfl⟩ := h; exact ⟨_, rfl⟩
theorem vUn_eq {x a : Expr} {o : UnaryOp} (h : vUn x = some (o, a)) : ∃ p, x = .UnaryOp o a p := by
  cases x <;> simp [vUn] at h
  obtain ⟨rfl, rfl⟩ := h; exact ⟨_, rfl⟩
theorem vCmp_eq {x a b : Expr} {o : CmpOp} (h : vCmp x = some (a, o, b)) : ∃ p, x = .Compare a [o] [b] p := by
  unfold vCmp at h
  split at h
  · cases h; exact ⟨_, rfl⟩
  · cases h
theorem vCh_eq {x a b d : Expr} {o p : CmpOp} (h : vCh x = some (a, o, p, b, d)) : ∃ ps, x = .Compare a [o, p] [b, d] ps := by
  unfold vCh at h
  split at h
  · cases h; exact ⟨_, rfl⟩
  · cases h
theorem vBoo_eq {x a b : Expr} {o : BoolOp} (h : vBoo x = some (o, a, b)) : (∃ p, x = .BoolOp o [a, b] p) ∨ ∃ v w r p, b = .BoolOp o (v :: w :: r) p ∧ x = .BoolOp o (a :: v :: w :: r) p := by
  unfold vBoo at h
  split at h
  · cases h; exact .inl ⟨_, rfl⟩
  · cases h; exact .inr ⟨_, _, _, _, rfl, rfl⟩
  · cases h
theorem vIfe_eq {x c a b : Expr} (h : vIfe x = some (c, a, b)) : ∃ p, x = .IfExp c a b p := by
  cases x <;> simp [vIfe] at h
  obtain ⟨rfl, rfl, rfl⟩ := h; exact ⟨_, rfl⟩
theorem vIx_eq {x a i : Expr} (h : vIx x = some (a, i)) : ∃ p, x = .Subscript a i p ∧ nSl i = true := by
  cases x <;> simp [vIx] at h
  obtain ⟨h0, rfl, rfl⟩ := h; exact ⟨_, rfl, h0⟩
theorem vSl_eq {x a : Expr} {lo hi : Option Expr} (h : vSl x = some (a, lo, hi)) : ∃ p q, x = .Subscript a (.Slice lo hi none p) q := by
  unfold vSl at h
  split at h
  · cases h; exact ⟨_, _, rfl⟩
  · cases h
theorem vRev_eq {x a : Expr} (h : vRev x = some a) : ∃ k p1 p2 p3 pos, x = .Subscript a (.Slice none none (some (.UnaryOp .USub (.Constant (.int 1) k p1) p2)) p3) pos := by
  unfold vRev at h
  split at h
  · cases h; exact ⟨_, _, _, _, _, rfl⟩
  · cases h
theorem vComp_eq {x elt tg iter : Expr} {k : Option Expr} {scope : Scope} (h : vComp x = some (elt, tg, iter, k, scope)) : ∃ p, x = .ListComp elt [⟨tg, iter, k.toList, 0⟩] scope p := by
  unfold vComp at h
  split at h
  · cases h; exact ⟨_, rfl⟩
  · cases h; exact ⟨_, rfl⟩
  · cases h
theorem vCallN_eq {x : Expr} {f : Str} {es : List Expr} (h : vCallN x = some (f, es)) : ∃ p q, x = .Call (.Name f p) es [] q := by
  unfold vCallN at h
  split at h
  · cases h; exact ⟨_, _, rfl⟩
  · cases h
theorem vCallA_eq {x o : Expr} {f : Str} {es : List Expr} (h : vCallA x = some (o, f, es)) : ∃ p q, x = .Call (.Attribute o f p) es [] q ∧ (p.endLine == q.line) = true := by
  unfold vCallA at h
  split at h
  · split at h
    · cases h; exact ⟨_, _, rfl, by assumption⟩
    · cases h
  · cases h
theorem vAtt_eq {x o : Expr} {f : Str} (h : vAtt x = some (o, f)) : ∃ p, x = .Attribute o f p := by
  cases x <;> simp [vAtt] at h
  obtain ⟨rfl, rfl⟩ := h; exact ⟨_, rfl⟩
theorem vDict_eq {x : Expr} {ks : List (Option Expr)} {vs : List Expr} (h : vDict x = some (ks, vs)) : ∃ p, x = .Dict ks vs p := by
  cases x <;> simp [vDict] at h
  obtain ⟨rfl, rfl⟩ := h; exact ⟨_, rfl⟩
theorem star_eq {x : Expr} {xs : List Expr} {env : Env} (h : nStar x = true) : starEach (x :: xs) env = (false, eval x env) :: starEach xs env := by
  cases x <;> first | rfl | cases h
theorem asg_eq {x : Expr} {xs : List Expr} {env : Env} (h : nStar x = true) : assignEach (x :: xs) env = (false, assign x env) :: assignEach xs env := by
  cases x <;> first | rfl | cases h
theorem base_eq {o : Expr} {nm : Str} {env : Env} {w : Sem Value} (h : nCall o = true) : attributeBase o nm env w = w := by
  cases o <;> first | rfl | cases h
theorem fold_eq {e : Expr} {env : Env} (h : nSet e = true) (x : Value) : foldedSetIterable e env x = pure x := by
  cases e <;> first | rfl | cases h
theorem mark_eq {o : CmpOp} {e : Expr} (h : nSet e = true) : behindInMarks o e = false := by
  cases e <;> first | rfl | cases h
theorem ix_eq {e : Expr} (h : nSl e = true) : PlainIx e := by
  intro o i
  cases e <;> first | rfl | cases h
theorem stars_all : ∀ {es : Es} {c : Ck} {xs : List Expr}, chkEs es c xs = true → xs.all nStar = true
  | .nil, _, [], _ => rfl
  | .cons _ _, c, x :: xs, h => by
    simp only [chkEs, Bool.and_eq_true] at h
    simp only [List.all_cons, Bool.and_eq_true]
    exact ⟨h.1.1, stars_all h.2⟩
  | .nil, _, _ :: _, h => by simp [chkEs] at h
  | .cons _ _, _, [], h => by simp [chkEs] at h
theorem back_any {pos : Pos} {env : Env} : ∀ {xs : List Expr}, xs.all nStar = true → (backTo pos (starEach xs env)).any (·.1) = false
  | [], _ => rfl
  | x :: xs, h => by
    simp only [List.all_cons, Bool.and_eq_true] at h
    rw [star_eq h.1]
    show (false || (backTo pos (starEach xs env)).any (·.1)) = false
    rw [back_any h.2]; rfl
theorem back_all {pos : Pos} {env : Env} : ∀ {xs : List Expr}, xs.all nStar = true → (backTo pos (starEach xs env)).all (fun x => !x.1) = true
  | [], _ => rfl
  | x :: xs, h => by
    simp only [List.all_cons, Bool.and_eq_true] at h
    rw [star_eq h.1]
    show (!false && (backTo pos (starEach xs env)).all (fun x => !x.1)) = true
    rw [back_all h.2]; rfl
section
variable {P : Pg} {C : Ctx}
theorem gl_of {c : Ck} {X : Cx} {Wx : WX} (G : Gd P C c X Wx) {x : Str} (h : c.gl x = true) : Gl X x ∧ (x == ("__debug__" : Str)) = false := by
  unfold Ck.gl Ck.is at h
  simp only [Bool.and_eq_true, Bool.not_eq_true', decide_eq_true_eq] at h
  exact ⟨by unfold Gl Env.kindOf; rw [G.sc]; exact h.1, h.2⟩
theorem vis_of {c : Ck} {X : Cx} {Wx : WX} (G : Gd P C c X Wx) {x : Str} (h : c.vis x = true) : Vis X.env.scope x ∧ (x == ("__debug__" : Str)) = false ∧ (x == ("__classdict__" : Str)) = false := by
  unfold Ck.vis Ck.is at h
  simp only [Bool.and_eq_true, Bool.or_eq_true, Bool.not_eq_true', decide_eq_true_eq] at h
  refine ⟨?_, h.1.2, h.2⟩
  unfold Vis
  rw [G.sc]
  rcases h.1.1 with (h | h) | h
  · exact .inl h
  · exact .inr (.inl h)
  · exact .inr (.inr h)
theorem loc_of {c : Ck} {X : Cx} {Wx : WX} (G : Gd P C c X Wx) {x : Str} (h : c.loc x = true) : L2.Loc X.env.scope x ∧ (X.fn x = true ∨ X.env.scope.names.lookup x = some .local) := by
  unfold Ck.loc Ck.is at h
  simp only [Bool.and_eq_true, Bool.or_eq_true, decide_eq_true_eq] at h
  unfold L2.Loc
  rw [G.sc]
  refine ⟨h.1, ?_⟩
  have f := G.fn x
  cases e : c.s0 with
  | none => rw [e] at f; exact .inl (f rfl)
  | some s =>
    rw [e] at f
    have h2 := h.2
    rw [e] at h2
    simp only [Bool.or_eq_true, decide_eq_true_eq] at h2
    rcases h2 with h2 | h2
    · exact .inl (f h2)
    · exact .inr h2
theorem Gd.blk {c : Ck} {X : Cx} {Wx : WX} (G : Gd P C c X Wx) {scope : Scope} {s : Shared} {H : Hp} {A : Addr} {cl : List (Str × Addr)} {fp : List Addr} : Gd P C (c.blk scope) (X.blk s H scope (compEnvC scope cl A X.env) fp) (fun _ _ _ _ => False) :=
  ⟨G.N, G.hw, G.nd, by show relS scope X.env.scope = relS scope c.sc; rw [G.sc], fun x h => h, G.calm, G.hu, takes0, G.gd, G.gl, G.bt, G.b2, fun f h => ⟨(G.cal f h).ex⟩, fun k f h => G.att k f h, fun k m h => ⟨(G.mcal k m h).ex⟩, fun k h => ⟨(G.ncal k h).ex⟩⟩
mutual
theorem tg_ok {c : Ck} {X : Cx} {Wx : WX} (G : Gd P C c X Wx) : ∀ (t : Tg) (x : Expr), chkTg c t x = true → PG X x (gT X.K t)
  | .nm i, x, h => by
    unfold chkTg at h
    cases e : vName x with
    | none => rw [e] at h; cases h
    | some n =>
      rw [e] at h
      simp only [Bool.and_eq_true, decide_eq_true_eq] at h
      obtain ⟨p, rfl⟩ := vName_eq e
      obtain ⟨l1, l2⟩ := loc_of G h.2
      exact pg_name G.nd (by rw [G.N]; exact h.1) l1 l2
  | .tp ts, x, h => by
    unfold chkTg at h
    cases e : vTup x with
    | none => rw [e] at h; cases h
    | some es =>
      rw [e] at h
      obtain ⟨k, p, rfl⟩ := vTup_eq e
      obtain ⟨h1, h2, h3⟩ := tgs_ok G ts es h
      exact pg_tup G.calm h1 h2 h3
theorem tgs_ok {c : Ck} {X : Cx} {Wx : WX} (G : Gd P C c X Wx) : ∀ (t : Tgs) (x : List Expr), chkTgs c t x = true → PGs X x (gTs X.K t) ∧ (assignEach x X.env).length = lenTs t ∧ (assignEach x X.env).findIdx? (·.1) = none
  | .nil, [], h => ⟨pgs_nil, rfl, rfl⟩
  | .nil, _ :: _, h => by simp [chkTgs] at h
  | .cons _ _, [], h => by simp [chkTgs] at h
  | .cons t ts, x :: xs, h => by
    simp only [chkTgs, Bool.and_eq_true] at h
    obtain ⟨h1, h2, h3⟩ := tgs_ok G ts xs h.2
    have a := asg_eq (xs := xs) (env := X.env) h.1.1
    refine ⟨pgs_cons (tg_ok G t x h.1.2) h1 (by rw [a]; rfl), by rw [a]; show _ + 1 = _ + 1; rw [h2], ?_⟩
    rw [a]
    rw [List.findIdx?_cons]
    simp only [Bool.false_eq_true, if_false, h3]
    rfl
end
end
end DL

namespace DL
open PySem PySem.Spec PyProof.Rows L2
section
variable {P : Pg} {C : Ctx}
theorem run_any {α β : Type} {K : PySem.W.Frag} {Ex : XD} {RA : Wd → α → β → Prop} {r : Rs α} {W : Wd} {S : Store} {H : Hp} {Q : β → Hp → Prop} (h : Run K C (fun _ _ _ _ _ => False) RA r W S H Q) (ne : ∀ c fs S', r = .ex c fs S' → ∀ W' H', Tr W S H W' S' H' → SR K C W' S' H' → False) : Run K C Ex RA r W S H Q := by
  cases r with
  | ok a S' => exact h
  | ex c fs S' => exact fun W' H' t s => (ne c fs S' rfl W' H' t s).elim
  | bad => exact h
theorem dT_no {K : PySem.W.Frag} {Ex : L2.St → XD} {ev : Rho → M Vl} {σ : L2.St} {H : Hp} {Q : VK} (h : dT K C exNo ev σ H Q) : dT K C Ex ev σ H Q := by
  obtain ⟨W, S, ρ, s, r, q⟩ := h
  refine ⟨W, S, ρ, s, r, ?_⟩
  cases e : ev ρ S with
  | ok a S' => rw [e] at q; exact q
  | ex c fs S' => rw [e] at q; exact fun W' H' t s => (q W' H' t s).elim
  | bad => rw [e] at q; exact q
theorem dB_no {K : PySem.W.Frag} {Ex : L2.St → XD} {ev : Rho → M Bool} {σ : L2.St} {H : Hp} {Q : Bool → Hp → Prop} (h : dB K C exNo ev σ H Q) : dB K C Ex ev σ H Q := by
  obtain ⟨W, S, ρ, s, r, q⟩ := h
  refine ⟨W, S, ρ, s, r, ?_⟩
  cases e : ev ρ S with
  | ok a S' => rw [e] at q; exact q
  | ex c fs S' => rw [e] at q; exact fun W' H' t s => (q W' H' t s).elim
  | bad => rw [e] at q; exact q
theorem cst_ok {X : Cx} {Ex : L2.St → XD} {d : PyData} {k : Const} {n : Nat} {p : Pos} (h : cstC d k = true) : PEd X C Ex (.Constant k n p) (fun _ => pur (.d d)) := by
  cases d <;> cases k <;> simp [cstC] at h
  · exact d_cst pe_non fun W => ⟨.non, rfl⟩
  · subst h; exact d_cst pe_bl fun W => ⟨.bl _, rfl⟩
  · subst h; exact d_cst pe_int fun W => ⟨.int _, rfl⟩
  · obtain ⟨rfl, h⟩ := h; exact d_cst pe_str fun W => ⟨.str _, h⟩
theorem d_oneE {X : Cx} {op : BoolOp} {b : Expr} {pos : Pos} {t : TE} (h : PE X b t) : PE X (.BoolOp op [b] pos) t := ⟨fun pins s σ H Q I q => h.run pins s σ H Q I q⟩
theorem keys_len : ∀ {ks : List Str} {keys : List (Option Expr)}, keyTs ks keys = true → keys.length = ks.length
  | [], [], _ => rfl
  | x :: xs, some (.Constant (.str y) _ _) :: ys, h => by
    simp only [keyTs, Bool.and_eq_true] at h
    show _ + 1 = _ + 1
    rw [keys_len h.2]
  | [], _ :: _, h => by simp [keyTs] at h
  | x :: xs, [], h => by simp [keyTs] at h
  | x :: xs, none :: _, h => by simp [keyTs] at h
theorem val_ok {X : Cx} {Ex : L2.St → XD} {x : Expr} {ev : Rho → M Vl} (h : PEd X C Ex x ev) (hx : (match x with
    | .UnaryOp .Not _ _ => false
    | .BoolOp .. => false
    | .IfExp .. => false
    | .Compare .. => false
    | _ => true) = true) : PTd X C Ex x (fun ρ => bnd (ev ρ) toB) := by
  refine d_val h fun whole => ?_
  cases x with
  | UnaryOp o a p => cases o <;> first | rfl | cases hx
  | BoolOp => cases hx
  | IfExp => cases hx
  | Compare => cases hx
  | _ => rfl
theorem subs_of {xs ys : List Nat} (h : subs xs ys = true) : ∀ i ∈ xs, i ∈ ys := by
  unfold subs at h
  intro i hi
  have := List.all_eq_true.mp h i hi
  simpa using this
theorem boo_join {X : Cx} {Ex : L2.St → XD} {op : BoolOp} {a b x : Expr} {eb : Rho → M Vl} (e : vBoo x = some (op, a, b)) (hb : PEd X C Ex b eb) : ∃ v r p, x = .BoolOp op (a :: v :: r) p ∧ PEd X C Ex (.BoolOp op (v :: r) p) eb := by
  rcases vBoo_eq e with ⟨p, rfl⟩ | ⟨v, w, r, p, rfl, rfl⟩
  · exact ⟨_, _, _, rfl, d_oneE hb⟩
  · exact ⟨_, _, _, rfl, hb⟩
theorem boo_joinT {X : Cx} {Ex : L2.St → XD} {op : BoolOp} {a b x : Expr} {eb : Rho → M Bool} (e : vBoo x = some (op, a, b)) (hb : PTd X C Ex b eb) : ∃ v r p, x = .BoolOp op (a :: v :: r) p ∧ PTd X C Ex (.BoolOp op (v :: r) p) eb := by
  rcases vBoo_eq e with ⟨p, rfl⟩ | ⟨v, w, r, p, rfl, rfl⟩
  · exact ⟨_, _, _, rfl, d_oneT hb⟩
  · exact ⟨_, _, _, rfl, hb⟩
theorem isi_ok {c : Ck} {X : Cx} {Wx : WX} (G : Gd P C c X Wx) {t : Str} {T : String} (h : isiOk t T = true) : X.mg t = none ∧ bootBuiltins t = some (.type T) ∧ t ≠ "__name__" ∧ ∀ d : PyData, kitB (tyD d) T = some (tyD d == T || (tyD d == "bool" && T == "int")) := by
  unfold isiOk at h
  simp only [Bool.or_eq_true, Bool.and_eq_true, decide_eq_true_eq] at h
  rcases h with ((((⟨rfl, rfl⟩ | ⟨rfl, rfl⟩) | ⟨rfl, rfl⟩) | ⟨rfl, rfl⟩) | ⟨rfl, rfl⟩) | ⟨rfl, rfl⟩
  · exact ⟨G.b2.2.2.2.2.2.2.2.1, by decide +kernel, by decide, fun d => by cases d <;> (simp only [tyD]; decide +kernel)⟩
  · exact ⟨G.bt .int, by decide +kernel, by decide, fun d => by cases d <;> (simp only [tyD]; decide +kernel)⟩
  · exact ⟨G.bt .str, by decide +kernel, by decide, fun d => by cases d <;> (simp only [tyD]; decide +kernel)⟩
  · exact ⟨G.bt (.list true), by decide +kernel, by decide, fun d => by cases d <;> (simp only [tyD]; decide +kernel)⟩
  · exact ⟨G.bt .tuple, by decide +kernel, by decide, fun d => by cases d <;> (simp only [tyD]; decide +kernel)⟩
  · exact ⟨G.b2.2.2.2.2.2.2.2.2.1, by decide +kernel, by decide, fun d => by cases d <;> (simp only [tyD]; decide +kernel)⟩
abbrev EK (P : Pg) (C : Ctx) (e : E) (X : Cx) (Wx : WX) (x : Expr) : Prop := PEd X C (exW X.K C Wx) x (evE P e) ∧ (tst e = true → PTd X C (exW X.K C Wx) x (fun ρ => bnd (evE P e ρ) toB))
mutual
theorem e_ok : ∀ (e : E) {c : Ck} {x : Expr} {X : Cx} {Wx : WX}, Gd P C c X Wx → chkE e c x = true → EK P C e X Wx x
  | .var i, c, x, X, Wx, G, h => by
    unfold chkE at h
    cases e : vName x with
    | none => rw [e] at h; cases h
    | some n =>
      rw [e] at h
      simp only [Bool.and_eq_true, decide_eq_true_eq] at h
      obtain ⟨p, rfl⟩ := vName_eq e
      obtain ⟨l1, l2, l3⟩ := vis_of G h.2
      have z : PEd X C (exW X.K C Wx) (.Name n p) (evE P (.var i)) := d_var (by rw [G.N]; exact h.1) l1 l2 l3
      exact ⟨z, fun _ => val_ok z rfl⟩
  | .cst d, c, x, X, Wx, G, h => by
    unfold chkE at h
    cases e : vCon x with
    | none => rw [e] at h; cases h
    | some k =>
      rw [e] at h
      obtain ⟨n, p, rfl⟩ := vCon_eq e
      have z : PEd X C (exW X.K C Wx) (.Constant k n p) (evE P (.cst d)) := cst_ok h
      exact ⟨z, fun _ => val_ok z rfl⟩
  | .glob g, c, x, X, Wx, G, h => by
    unfold chkE at h
    cases e : vName x with
    | none => rw [e] at h; cases h
    | some n =>
      rw [e] at h
      simp only [Bool.and_eq_true, decide_eq_true_eq] at h
      obtain ⟨p, rfl⟩ := vName_eq e
      obtain ⟨rfl, h⟩ := h
      obtain ⟨l1, l2⟩ := gl_of G h
      have z : PEd X C (exW X.K C Wx) (.Name n p) (evE P (.glob n)) := by
        cases eg : P.glob n with
        | none =>
          refine d_bad (fun ρ S a S' => ?_) (fun ρ S a fs S' => ?_)
          · show (match P.glob n with | some x => pur (Vl.d x) | none => bad) S ≠ _; rw [eg]; intro z; cases z
          · show (match P.glob n with | some x => pur (Vl.d x) | none => bad) S ≠ _; rw [eg]; intro z; cases z
        | some d =>
          obtain ⟨v, u, g1, g2, g3⟩ := G.gl n d eg
          have := d_cst (C := C) (Ex := exW X.K C Wx) (d := d) (pe_glob (pos := p) l1 g1 g2 l2) g3
          have ev : evE P (.glob n) = fun _ => pur (.d d) := by
            funext ρ
            show (match P.glob n with | some x => pur (Vl.d x) | none => bad) = _
            rw [eg]
          rw [ev]; exact this
      exact ⟨z, fun _ => val_ok z rfl⟩
  | .tup es, c, x, X, Wx, G, h => by
    unfold chkE at h
    cases e : vTup x with
    | none => rw [e] at h; cases h
    | some xs =>
      rw [e] at h
      obtain ⟨k, p, rfl⟩ := vTup_eq e
      have z : PEd X C (exW X.K C Wx) (.Tuple xs k p) (evE P (.tup es)) := d_tup (es_ok es G h).1
      exact ⟨z, fun _ => val_ok z rfl⟩
  | .lst m es, c, x, X, Wx, G, h => by
    unfold chkE at h
    cases e : vLst x with
    | none => rw [e] at h; cases h
    | some xs =>
      rw [e] at h
      obtain ⟨p, rfl⟩ := vLst_eq e
      have z : PEd X C (exW X.K C Wx) (.List xs p) (evE P (.lst m es)) := d_lst (es_ok es G h).1
      exact ⟨z, fun _ => val_ok z rfl⟩
  | .bin o a b, c, x, X, Wx, G, h => by
    unfold chkE at h
    cases e : vBin x with
    | none => rw [e] at h; cases h
    | some t =>
      obtain ⟨l, op, r⟩ := t
      rw [e] at h
      simp only [Bool.and_eq_true, decide_eq_true_eq] at h
      obtain ⟨⟨rfl, ha⟩, hb⟩ := h
      obtain ⟨p, rfl⟩ := vBin_eq e
      have z : PEd X C (exW X.K C Wx) (.BinOp l o.op r p) (evE P (.bin o a b)) := d_bin (e_ok a G ha).1 (e_ok b G hb).1
      exact ⟨z, fun _ => val_ok z rfl⟩
  | .neg a, c, x, X, Wx, G, h => by
    unfold chkE at h
    cases e : vUn x with
    | none => rw [e] at h; cases h
    | some t =>
      obtain ⟨op, l⟩ := t
      rw [e] at h
      simp only [Bool.and_eq_true, decide_eq_true_eq] at h
      obtain ⟨rfl, ha⟩ := h
      obtain ⟨p, rfl⟩ := vUn_eq e
      have z : PEd X C (exW X.K C Wx) (.UnaryOp .USub l p) (evE P (.neg a)) := d_neg (e_ok a G ha).1
      exact ⟨z, fun _ => val_ok z rfl⟩
  | .cmp o a b, c, x, X, Wx, G, h => by
    unfold chkE at h
    cases e : vCmp x with
    | none => rw [e] at h; cases h
    | some t =>
      obtain ⟨l, op, r⟩ := t
      rw [e] at h
      simp only [Bool.and_eq_true, decide_eq_true_eq] at h
      obtain ⟨⟨⟨rfl, hm⟩, ha⟩, hb⟩ := h
      obtain ⟨p, rfl⟩ := vCmp_eq e
      exact ⟨d_cmp G.hw G.hu (mark_eq hm) (e_ok a G ha).1 (e_ok b G hb).1, fun _ => d_cmpT G.hw G.hu (mark_eq hm) (e_ok a G ha).1 (e_ok b G hb).1⟩
  | .chain o pp a b d, c, x, X, Wx, G, h => by
    unfold chkE at h
    cases e : vCh x with
    | none => rw [e] at h; cases h
    | some t =>
      obtain ⟨l, op, pq, r, q⟩ := t
      rw [e] at h
      simp only [Bool.and_eq_true, decide_eq_true_eq] at h
      obtain ⟨⟨⟨⟨⟨rfl, rfl⟩, hm⟩, ha⟩, hb⟩, hd⟩ := h
      obtain ⟨p, rfl⟩ := vCh_eq e
      have hm : lastMarks [o.op, pp.op] [r, q] = false := by show behindInMarks pp.op q = false; exact mark_eq hm
      exact ⟨d_chain G.hw G.hu hm (e_ok a G ha).1 (e_ok b G hb).1 (e_ok d G hd).1, fun _ => d_chainT G.hw G.hu hm (e_ok a G ha).1 (e_ok b G hb).1 (e_ok d G hd).1⟩
  | .band a b, c, x, X, Wx, G, h => by
    unfold chkE at h
    cases e : vBoo x with
    | none => rw [e] at h; cases h
    | some t =>
      obtain ⟨op, l, r⟩ := t
      rw [e] at h
      simp only [Bool.and_eq_true, decide_eq_true_eq] at h
      obtain ⟨⟨⟨⟨rfl, ta⟩, tb⟩, ha⟩, hb⟩ := h
      refine ⟨?_, fun _ => ?_⟩
      · obtain ⟨v, r, p, rfl, hb⟩ := boo_join e (e_ok b G hb).1
        exact d_and (e_ok a G ha).1 hb
      · obtain ⟨v, r, p, rfl, hb⟩ := boo_joinT e ((e_ok b G hb).2 tb)
        exact d_andT ((e_ok a G ha).2 ta) hb
  | .bor a b, c, x, X, Wx, G, h => by
    unfold chkE at h
    cases e : vBoo x with
    | none => rw [e] at h; cases h
    | some t =>
      obtain ⟨op, l, r⟩ := t
      rw [e] at h
      simp only [Bool.and_eq_true, decide_eq_true_eq] at h
      obtain ⟨⟨⟨⟨rfl, ta⟩, tb⟩, ha⟩, hb⟩ := h
      refine ⟨?_, fun _ => ?_⟩
      · obtain ⟨v, r, p, rfl, hb⟩ := boo_join e (e_ok b G hb).1
        exact d_or (e_ok a G ha).1 hb
      · obtain ⟨v, r, p, rfl, hb⟩ := boo_joinT e ((e_ok b G hb).2 tb)
        exact d_orT ((e_ok a G ha).2 ta) hb
  | .bnot a, c, x, X, Wx, G, h => by
    unfold chkE at h
    cases e : vUn x with
    | none => rw [e] at h; cases h
    | some t =>
      obtain ⟨op, l⟩ := t
      rw [e] at h
      simp only [Bool.and_eq_true, decide_eq_true_eq] at h
      obtain ⟨⟨rfl, ta⟩, ha⟩ := h
      obtain ⟨p, rfl⟩ := vUn_eq e
      exact ⟨d_not (e_ok a G ha).1, fun _ => d_notT ((e_ok a G ha).2 ta)⟩
  | .ife k a b, c, x, X, Wx, G, h => by
    unfold chkE at h
    cases e : vIfe x with
    | none => rw [e] at h; cases h
    | some t =>
      obtain ⟨t, l, r⟩ := t
      rw [e] at h
      simp only [Bool.and_eq_true] at h
      obtain ⟨⟨⟨tk, hk⟩, ha⟩, hb⟩ := h
      obtain ⟨p, rfl⟩ := vIfe_eq e
      exact ⟨d_ife ((e_ok k G hk).2 tk) (e_ok a G ha).1 (e_ok b G hb).1, fun z => by cases z⟩
  | .ix a i, c, x, X, Wx, G, h => by
    unfold chkE at h
    cases e : vIx x with
    | none => rw [e] at h; cases h
    | some t =>
      obtain ⟨l, r⟩ := t
      rw [e] at h
      simp only [Bool.and_eq_true] at h
      obtain ⟨ha, hb⟩ := h
      obtain ⟨p, rfl, hs⟩ := vIx_eq e
      have z : PEd X C (exW X.K C Wx) (.Subscript l r p) (evE P (.ix a i)) := d_ix G.hw G.hu (ix_eq hs) (e_ok a G ha).1 (e_ok i G hb).1
      exact ⟨z, fun _ => val_ok z rfl⟩
  | .sl m a lo hi, c, x, X, Wx, G, h => by
    unfold chkE at h
    cases e : vSl x with
    | none => rw [e] at h; cases h
    | some t =>
      obtain ⟨l, p, q⟩ := t
      rw [e] at h
      simp only [Bool.and_eq_true] at h
      obtain ⟨⟨ha, hl⟩, hh⟩ := h
      obtain ⟨p1, p2, rfl⟩ := vSl_eq e
      have z : PEd X C (exW X.K C Wx) (.Subscript l (.Slice p q none p1) p2) (evE P (.sl m a lo hi)) := d_sl (e_ok a G ha).1 (eo_ok lo G hl) (eo_ok hi G hh)
      exact ⟨z, fun _ => val_ok z rfl⟩
  | .comp m own tg it .no el, c, x, X, Wx, G, h => by
    unfold chkE at h
    cases e : vComp x with
    | none => rw [e] at h; cases h
    | some t =>
      obtain ⟨elt, tgt, iter, k', scope⟩ := t
      rw [e] at h
      simp only [Bool.and_eq_true] at h
      obtain ⟨⟨⟨⟨⟨⟨⟨hi, hs⟩, hb⟩, ht⟩, hsub⟩, hk⟩, _⟩, he⟩ := h
      obtain ⟨p, rfl⟩ := vComp_eq e
      cases k' with
      | some k' => simp [chkEo] at hk
      | none =>
        have z : PEd X C (exW X.K C Wx) (.ListComp elt [⟨tgt, iter, [], 0⟩] scope p) (evE P (.comp m own tg it .no el)) := by
          refine PE.weak (pe_lc G.calm G.nd (it_ok it G hi) (blkOk_by (own := own) (by rw [G.N, G.sc]; exact hb)) (g := gT X.K tg) (tt := dC X.K C none) (te := dT X.K C exNo (evE P el)) (fun s H A cl fp => tg_ok G.blk tg tgt ht) (fun s H A cl fp => pts_nil) (fun s H A cl fp => PE.weak (e_ok el G.blk he).1 fun σ H Q q => dT_no q) (fold_eq hs)) fun σ H Q q => ?_
          exact lc_run (subs_of hsub) q
        exact ⟨z, fun _ => val_ok z rfl⟩
  | .comp m own tg it (.yes k) el, c, x, X, Wx, G, h => by
    unfold chkE at h
    cases e : vComp x with
    | none => rw [e] at h; cases h
    | some t =>
      obtain ⟨elt, tgt, iter, k', scope⟩ := t
      rw [e] at h
      simp only [Bool.and_eq_true] at h
      obtain ⟨⟨⟨⟨⟨⟨⟨hi, hs⟩, hb⟩, ht⟩, hsub⟩, hk⟩, hkt⟩, he⟩ := h
      obtain ⟨p, rfl⟩ := vComp_eq e
      cases k' with
      | none => simp [chkEo] at hk
      | some k' =>
        simp only [chkEo] at hk
        have z : PEd X C (exW X.K C Wx) (.ListComp elt [⟨tgt, iter, [k'], 0⟩] scope p) (evE P (.comp m own tg it (.yes k) el)) := by
          refine PE.weak (pe_lc G.calm G.nd (it_ok it G hi) (blkOk_by (own := own) (by rw [G.N, G.sc]; exact hb)) (g := gT X.K tg) (tt := dC X.K C (some fun ρ1 => bnd (evE P k ρ1) toB)) (te := dT X.K C exNo (evE P el)) (fun s H A cl fp => tg_ok G.blk tg tgt ht) (fun s H A cl fp => pts_one (PT.weak ((e_ok k G.blk hk).2 hkt) fun σ H Q q => dB_no q)) (fun s H A cl fp => PE.weak (e_ok el G.blk he).1 fun σ H Q q => dT_no q) (fold_eq hs)) fun σ H Q q => ?_
          exact lc_run (subs_of hsub) q
        exact ⟨z, fun _ => val_ok z rfl⟩
  | .call pp f es, c, x, X, Wx, G, h => by
    unfold chkE at h
    cases e : vCallN x with
    | none => rw [e] at h; cases h
    | some t =>
      obtain ⟨n, xs⟩ := t
      rw [e] at h
      simp only [Bool.and_eq_true, decide_eq_true_eq] at h
      obtain ⟨⟨⟨⟨rfl, hg⟩, hf⟩, hne⟩, hes⟩ := h
      obtain ⟨p, q, rfl⟩ := vCallN_eq e
      obtain ⟨l1, l2⟩ := gl_of G hg
      have st := stars_all hes
      cases xs with
      | nil => simp at hne
      | cons y ys =>
        simp only [List.all_cons, Bool.and_eq_true] at st
        have z : PEd X C (exW X.K C Wx) (.Call (.Name n p) (y :: ys) [] q) (evE P (.call pp n es)) := d_call G.tk (G.cal n hf) l1 (es_ok es G hes).1 l2 (star_eq st.1) (back_any st.2)
        exact ⟨z, fun _ => val_ok z rfl⟩
  | .bi b es, c, x, X, Wx, G, h => by
    unfold chkE at h
    cases e : vCallN x with
    | none => rw [e] at h; cases h
    | some t =>
      obtain ⟨n, xs⟩ := t
      rw [e] at h
      simp only [Bool.and_eq_true, decide_eq_true_eq] at h
      obtain ⟨⟨⟨rfl, hg⟩, hne⟩, hes⟩ := h
      obtain ⟨p, q, rfl⟩ := vCallN_eq e
      obtain ⟨l1, l2⟩ := gl_of G hg
      have st := stars_all hes
      cases xs with
      | nil => simp at hne
      | cons y ys =>
        simp only [List.all_cons, Bool.and_eq_true] at st
        have z : PEd X C (exW X.K C Wx) (.Call (.Name b.name p) (y :: ys) [] q) (evE P (.bi b es)) := d_bi b G.hw G.hu G.calm rfl l1 (G.bt b) (es_ok es G hes).1 (star_eq st.1) (back_any st.2)
        exact ⟨z, fun _ => val_ok z rfl⟩
  | .mt m o es, c, x, X, Wx, G, h => by
    unfold chkE at h
    cases e : vCallA x with
    | none => rw [e] at h; cases h
    | some t =>
      obtain ⟨l, n, xs⟩ := t
      rw [e] at h
      simp only [Bool.and_eq_true, decide_eq_true_eq] at h
      obtain ⟨⟨⟨⟨rfl, hnc⟩, hlen⟩, ho⟩, hes⟩ := h
      obtain ⟨p, q, rfl, hl⟩ := vCallA_eq e
      have st := stars_all hes
      cases xs with
      | nil =>
        cases es with
        | cons _ _ => simp [chkEs] at hes
        | nil =>
          have z : PEd X C (exW X.K C Wx) (.Call (.Attribute l m.name p) [] [] q) (evE P (.mt m o .nil)) := d_mt0 G.hw G.calm G.hu rfl (e_ok o G ho).1 (base_eq hnc) hl
          exact ⟨z, fun _ => val_ok z rfl⟩
      | cons y ys =>
        have st2 := st
        simp only [List.all_cons, Bool.and_eq_true] at st
        have z : PEd X C (exW X.K C Wx) (.Call (.Attribute l m.name p) (y :: ys) [] q) (evE P (.mt m o es)) := by
          refine d_mt G.hw G.calm G.hu rfl (e_ok o G ho).1 (es_ok es G hes).1 (base_eq hnc) ?_ hl (star_eq st.1) (back_any st.2)
          rw [back_all st2]
          simp only [Bool.and_eq_true, decide_eq_true_eq]
          refine ⟨⟨trivial, rfl⟩, ?_⟩
          show (y :: ys).length + 0 + 0 < 30
          omega
        exact ⟨z, fun _ => val_ok z rfl⟩
  | .isi a T, c, x, X, Wx, G, h => by
    unfold chkE at h
    split at h
    · rename_i n l t e
      split at h
      · rename_i tn et
        simp only [Bool.and_eq_true, decide_eq_true_eq] at h
        obtain ⟨⟨⟨⟨⟨rfl, hg⟩, hs⟩, hi⟩, hgt⟩, ha⟩ := h
        obtain ⟨p, q, rfl⟩ := vCallN_eq e
        obtain ⟨pt, rfl⟩ := vName_eq et
        obtain ⟨g1, g2⟩ := gl_of G hg
        obtain ⟨t1, t2⟩ := gl_of G hgt
        obtain ⟨i1, i2, i3, i4⟩ := isi_ok G hi
        have z : PEd X C (exW X.K C Wx) (.Call (.Name "isinstance" p) [l, .Name tn pt] [] q) (evE P (.isi a T)) := d_isi g1 G.b2.2.2.2.2.1 t1 i1 i2 i3 t2 i4 (e_ok a G ha).1 (star_eq hs)
        exact ⟨z, fun _ => val_ok z rfl⟩
      · cases h
    · cases h
  | .disp ks es, c, x, X, Wx, G, h => by
    unfold chkE at h
    cases e : vDict x with
    | none => rw [e] at h; cases h
    | some t =>
      obtain ⟨keys, vals⟩ := t
      rw [e] at h
      simp only [Bool.and_eq_true, decide_eq_true_eq] at h
      obtain ⟨⟨⟨⟨hk, hne⟩, h15⟩, hl⟩, hes⟩ := h
      obtain ⟨p, rfl⟩ := vDict_eq e
      have z : PEd X C (exW X.K C Wx) (.Dict keys vals p) (evE P (.disp ks es)) := d_disp ((es_ok es G hes).2 p ks keys hk hl) (fun z => by rw [z] at hne; simp at hne) h15
      exact ⟨z, fun _ => val_ok z rfl⟩
  | .dnew, c, x, X, Wx, G, h => by
    unfold chkE at h
    cases e : vDict x with
    | none => rw [e] at h; cases h
    | some t =>
      obtain ⟨keys, vals⟩ := t
      rw [e] at h
      simp only [Bool.and_eq_true, List.isEmpty_iff] at h
      obtain ⟨rfl, rfl⟩ := h
      obtain ⟨p, rfl⟩ := vDict_eq e
      have z : PEd X C (exW X.K C Wx) (.Dict [] [] p) (evE P .dnew) := d_dnew
      exact ⟨z, fun _ => val_ok z rfl⟩
  | .srtset m a, c, x, X, Wx, G, h => by
    unfold chkE at h
    split at h
    · rename_i n y e
      split at h
      · rename_i r l e2
        simp only [Bool.and_eq_true, decide_eq_true_eq] at h
        obtain ⟨⟨⟨⟨⟨rfl, hg⟩, rfl⟩, hg2⟩, hs⟩, ha⟩ := h
        obtain ⟨p, q, rfl⟩ := vCallN_eq e
        obtain ⟨p2, q2, rfl⟩ := vCallN_eq e2
        have z : PEd X C (exW X.K C Wx) (.Call (.Name "sorted" p) [.Call (.Name "set" p2) [l] [] q2] [] q) (evE P (.srtset m a)) := d_srtset G.calm G.hu (gl_of G hg).1 G.b2.2.2.2.2.2.1 (gl_of G hg2).1 G.b2.2.2.2.2.2.2.1 (e_ok a G ha).1 (star_eq hs) rfl
        exact ⟨z, fun _ => val_ok z rfl⟩
      · cases h
    · cases h
  | .lenset a, c, x, X, Wx, G, h => by
    unfold chkE at h
    split at h
    · rename_i n y e
      split at h
      · rename_i r l e2
        simp only [Bool.and_eq_true, decide_eq_true_eq] at h
        obtain ⟨⟨⟨⟨⟨rfl, hg⟩, rfl⟩, hg2⟩, hs⟩, ha⟩ := h
        obtain ⟨p, q, rfl⟩ := vCallN_eq e
        obtain ⟨p2, q2, rfl⟩ := vCallN_eq e2
        have z : PEd X C (exW X.K C Wx) (.Call (.Name "len" p) [.Call (.Name "set" p2) [l] [] q2] [] q) (evE P (.lenset a)) := d_lenset G.calm G.hu (gl_of G hg).1 (G.bt .len) (gl_of G hg2).1 G.b2.2.2.2.2.2.2.1 (e_ok a G ha).1 (star_eq hs) rfl
        exact ⟨z, fun _ => val_ok z rfl⟩
      · cases h
    · cases h
  | .revT a, c, x, X, Wx, G, h => by
    unfold chkE at h
    cases e : vRev x with
    | none => rw [e] at h; cases h
    | some l =>
      rw [e] at h
      obtain ⟨k, p1, p2, p3, p4, rfl⟩ := vRev_eq e
      have z : PEd X C (exW X.K C Wx) (.Subscript l (.Slice none none (some (.UnaryOp .USub (.Constant (.int 1) k p1) p2)) p3) p4) (evE P (.revT a)) := d_revT (e_ok a G h).1
      exact ⟨z, fun _ => val_ok z rfl⟩
  | .lrng1 m a, c, x, X, Wx, G, h => by
    unfold chkE at h
    split at h
    · rename_i n y e
      split at h
      · rename_i r l e2
        simp only [Bool.and_eq_true, decide_eq_true_eq] at h
        obtain ⟨⟨⟨⟨⟨rfl, hg⟩, rfl⟩, hg2⟩, hs⟩, ha⟩ := h
        obtain ⟨p, q, rfl⟩ := vCallN_eq e
        obtain ⟨p2, q2, rfl⟩ := vCallN_eq e2
        have z : PEd X C (exW X.K C Wx) (.Call (.Name "list" p) [.Call (.Name "range" p2) [l] [] q2] [] q) (evE P (.lrng1 m a)) := d_lrng1 G.calm (gl_of G hg).1 (G.bt (.list m)) (gl_of G hg2).1 G.b2.1 (e_ok a G ha).1 (star_eq hs) rfl
        exact ⟨z, fun _ => val_ok z rfl⟩
      · cases h
    · cases h
  | .lrng2 m a b, c, x, X, Wx, G, h => by
    unfold chkE at h
    split at h
    · rename_i n y e
      split at h
      · rename_i r l l2 e2
        simp only [Bool.and_eq_true, decide_eq_true_eq] at h
        obtain ⟨⟨⟨⟨⟨⟨⟨rfl, hg⟩, rfl⟩, hg2⟩, hs⟩, hs2⟩, ha⟩, hb⟩ := h
        obtain ⟨p, q, rfl⟩ := vCallN_eq e
        obtain ⟨p2, q2, rfl⟩ := vCallN_eq e2
        have z : PEd X C (exW X.K C Wx) (.Call (.Name "list" p) [.Call (.Name "range" p2) [l, l2] [] q2] [] q) (evE P (.lrng2 m a b)) := d_lrng2 G.calm (gl_of G hg).1 (G.bt (.list m)) (gl_of G hg2).1 G.b2.1 (e_ok a G ha).1 (e_ok b G hb).1 (star_eq hs) (star_eq hs2) (by rw [star_eq hs2]; rfl) rfl
        exact ⟨z, fun _ => val_ok z rfl⟩
      · cases h
    · cases h
  | .lrev m a, c, x, X, Wx, G, h => by
    unfold chkE at h
    split at h
    · rename_i n y e
      split at h
      · rename_i r l e2
        simp only [Bool.and_eq_true, decide_eq_true_eq] at h
        obtain ⟨⟨⟨⟨⟨rfl, hg⟩, rfl⟩, hg2⟩, hs⟩, ha⟩ := h
        obtain ⟨p, q, rfl⟩ := vCallN_eq e
        obtain ⟨p2, q2, rfl⟩ := vCallN_eq e2
        have z : PEd X C (exW X.K C Wx) (.Call (.Name "list" p) [.Call (.Name "reversed" p2) [l] [] q2] [] q) (evE P (.lrev m a)) := d_lrev G.calm (gl_of G hg).1 (G.bt (.list m)) (gl_of G hg2).1 G.b2.2.2.1 (e_ok a G ha).1 (star_eq hs) rfl
        exact ⟨z, fun _ => val_ok z rfl⟩
      · cases h
    · cases h
  | .rep a, c, x, X, Wx, G, h => by
    unfold chkE at h
    split at h
    · rename_i n l e
      simp only [Bool.and_eq_true, decide_eq_true_eq] at h
      obtain ⟨⟨⟨rfl, hg⟩, hs⟩, ha⟩ := h
      obtain ⟨p, q, rfl⟩ := vCallN_eq e
      have z : PEd X C (exW X.K C Wx) (.Call (.Name "repr" p) [l] [] q) (evE P (.rep a)) := d_rep G.gd G.hu (gl_of G hg).1 G.b2.2.2.2.2.2.2.2.2.2 (e_ok a G ha).1 (star_eq hs)
      exact ⟨z, fun _ => val_ok z rfl⟩
    · cases h
  | .frz a, c, x, X, Wx, G, h => by
    unfold chkE at h
    exact ⟨d_frz (e_ok a G h).1, fun z => by cases z⟩
  | .dnewT, c, x, X, Wx, G, h => by
    unfold chkE at h
    cases e : vDict x with
    | none => rw [e] at h; cases h
    | some t =>
      obtain ⟨keys, vals⟩ := t
      rw [e] at h
      simp only [Bool.and_eq_true, List.isEmpty_iff] at h
      obtain ⟨rfl, rfl⟩ := h
      obtain ⟨p, rfl⟩ := vDict_eq e
      have z : PEd X C (exW X.K C Wx) (.Dict [] [] p) (evE P .dnewT) := d_dnewT G.hw
      exact ⟨z, fun _ => val_ok z rfl⟩
  | .disp1 k v, c, x, X, Wx, G, h => by
    unfold chkE at h
    split at h
    · rename_i kx vx e
      simp only [Bool.and_eq_true] at h
      obtain ⟨p, rfl⟩ := vDict_eq e
      have z : PEd X C (exW X.K C Wx) (.Dict [some kx] [vx] p) (evE P (.disp1 k v)) := d_disp1 G.hw G.hu (e_ok k G h.1).1 (e_ok v G h.2).1
      exact ⟨z, fun _ => val_ok z rfl⟩
    · cases h
  | .zipT a b, c, x, X, Wx, G, h => by
    unfold chkE at h
    split at h
    · rename_i n y e
      split at h
      · rename_i zz l r e2
        simp only [Bool.and_eq_true, decide_eq_true_eq] at h
        obtain ⟨⟨⟨⟨⟨⟨⟨rfl, hg⟩, rfl⟩, hg2⟩, hs⟩, hs2⟩, ha⟩, hb⟩ := h
        obtain ⟨p, q, rfl⟩ := vCallN_eq e
        obtain ⟨p2, q2, rfl⟩ := vCallN_eq e2
        have z : PEd X C (exW X.K C Wx) (.Call (.Name "tuple" p) [.Call (.Name "zip" p2) [l, r] [] q2] [] q) (evE P (.zipT a b)) := d_zipT G.calm (gl_of G hg).1 (G.bt .tuple) (gl_of G hg2).1 G.b2.2.2.2.1 (e_ok a G ha).1 (e_ok b G hb).1 (by rw [star_eq hs]) (star_eq hs2) rfl
        exact ⟨z, fun _ => val_ok z rfl⟩
      · cases h
    · cases h
  | .fld k o f, c, x, X, Wx, G, h => by
    unfold chkE at h
    cases e : vAtt x with
    | none => rw [e] at h; cases h
    | some t =>
      obtain ⟨l, g⟩ := t
      rw [e] at h
      simp only [Bool.and_eq_true, decide_eq_true_eq] at h
      obtain ⟨⟨⟨rfl, hs⟩, ha⟩, ho⟩ := h
      obtain ⟨p, rfl⟩ := vAtt_eq e
      have z : PEd X C (exW X.K C Wx) (.Attribute l g p) (evE P (.fld k o g)) := d_fld (G.att k g ha) (e_ok o G ho).1 (base_eq2 hs)
      exact ⟨z, fun _ => val_ok z rfl⟩
  | .meth k o m es, c, x, X, Wx, G, h => by
    unfold chkE at h
    cases e : vCallA x with
    | none => rw [e] at h; cases h
    | some t =>
      obtain ⟨l, n, xs⟩ := t
      rw [e] at h
      simp only [Bool.and_eq_true, decide_eq_true_eq] at h
      obtain ⟨⟨⟨⟨⟨rfl, hsu⟩, hlen⟩, hm⟩, ho⟩, hes⟩ := h
      obtain ⟨p, q, rfl, hl⟩ := vCallA_eq e
      have st := stars_all hes
      cases xs with
      | nil =>
        cases es with
        | cons _ _ => simp [chkEs] at hes
        | nil =>
          have z : PEd X C (exW X.K C Wx) (.Call (.Attribute l n p) [] [] q) (evE P (.meth k o n .nil)) := d_meth0 G.tk (G.mcal k n hm) (e_ok o G ho).1 (meth_eq (base_eq2 hsu) (few_ok rfl (by simp)) hl)
          exact ⟨z, fun _ => val_ok z rfl⟩
      | cons y ys =>
        have st2 := st
        simp only [List.all_cons, Bool.and_eq_true] at st
        have z : PEd X C (exW X.K C Wx) (.Call (.Attribute l n p) (y :: ys) [] q) (evE P (.meth k o n es)) := d_meth G.tk (G.mcal k n hm) (e_ok o G ho).1 (es_ok es G hes).1 (star_eq st.1) (back_any st.2) (meth_eq (base_eq2 hsu) (few_ok (back_all st2) hlen) hl)
        exact ⟨z, fun _ => val_ok z rfl⟩
  | .new k es, c, x, X, Wx, G, h => by
    unfold chkE at h
    cases e : vCallN x with
    | none => rw [e] at h; cases h
    | some t =>
      obtain ⟨n, xs⟩ := t
      rw [e] at h
      simp only [Bool.and_eq_true, decide_eq_true_eq] at h
      obtain ⟨⟨⟨⟨rfl, hg⟩, hf⟩, hne⟩, hes⟩ := h
      obtain ⟨p, q, rfl⟩ := vCallN_eq e
      obtain ⟨l1, l2⟩ := gl_of G hg
      have st := stars_all hes
      cases xs with
      | nil => simp at hne
      | cons y ys =>
        simp only [List.all_cons, Bool.and_eq_true] at st
        have z : PEd X C (exW X.K C Wx) (.Call (.Name n p) (y :: ys) [] q) (evE P (.new n es)) := d_new G.tk (G.ncal n hf) l1 (es_ok es G hes).1 l2 (star_eq st.1) (back_any st.2)
        exact ⟨z, fun _ => val_ok z rfl⟩
theorem es_ok : ∀ (es : Es) {c : Ck} {xs : List Expr} {X : Cx} {Wx : WX}, Gd P C c X Wx → chkEs es c xs = true → PAd X C (exW X.K C Wx) xs (evEs P es) ∧ ∀ pos ks keys, keyTs ks keys = true → xs.length = keys.length → PDd X C (exW X.K C Wx) pos ks keys xs (evEs P es)
  | .nil, c, [], X, Wx, G, h => ⟨d_nil, fun pos ks keys hk hl => by
    cases keys with
    | cons _ _ => simp at hl
    | nil =>
      cases ks with
      | cons _ _ => simp [keyTs] at hk
      | nil => exact pd_nil⟩
  | .nil, c, _ :: _, X, Wx, G, h => by simp [chkEs] at h
  | .cons _ _, c, [], X, Wx, G, h => by simp [chkEs] at h
  | .cons e r, c, x :: xs, X, Wx, G, h => by
    simp only [chkEs, Bool.and_eq_true] at h
    obtain ⟨⟨h1, h2⟩, h3⟩ := h
    refine ⟨d_cons (e_ok e G h2).1 (es_ok r G h3).1 (star_eq h1), fun pos ks keys hk hl => ?_⟩
    cases keys with
    | nil => simp at hl
    | cons k keys =>
      cases ks with
      | nil => simp [keyTs] at hk
      | cons s ks =>
        unfold keyTs at hk
        split at hk
        · simp at *
        · rename_i e1 e2
          cases e1; cases e2
          simp only [Bool.and_eq_true, decide_eq_true_eq] at hk
          obtain ⟨rfl, hk⟩ := hk
          exact pd_cons (e_ok e G h2).1 ((es_ok r G h3).2 pos _ _ hk (by simpa using hl))
        · cases hk
theorem eo_ok : ∀ (o : Eo) {c : Ck} {x : Option Expr} {X : Cx} {Wx : WX}, Gd P C c X Wx → chkEo o c x = true → PO X x (dO X.K C (exW X.K C Wx) (evEo P o))
  | .no, c, none, X, Wx, G, h => d_no
  | .yes e, c, some x, X, Wx, G, h => d_yes (e_ok e G (by simpa only [chkEo] using h)).1
  | .no, c, some _, X, Wx, G, h => by simp [chkEo] at h
  | .yes _, c, none, X, Wx, G, h => by simp [chkEo] at h
theorem it_ok : ∀ (i : It) {c : Ck} {tg x : Expr} {X : Cx} {Wx : WX}, Gd P C c X Wx → chkIt i c tg x = true → PId X C (exW X.K C Wx) tg x (evIt P i)
  | .val e, c, tg, x, X, Wx, G, h => i_val (e_ok e G (by simpa only [chkIt] using h)).1
  | .rng1 a, c, tg, x, X, Wx, G, h => by
    unfold chkIt at h
    split at h
    · rename_i n l e
      simp only [Bool.and_eq_true, decide_eq_true_eq] at h
      obtain ⟨⟨⟨rfl, hg⟩, hs⟩, ha⟩ := h
      obtain ⟨p, q, rfl⟩ := vCallN_eq e
      exact i_rng1 (gl_of G hg).1 G.b2.1 (e_ok a G ha).1 (star_eq hs)
    · cases h
  | .rng2 a b, c, tg, x, X, Wx, G, h => by
    unfold chkIt at h
    split at h
    · rename_i n l r e
      simp only [Bool.and_eq_true, decide_eq_true_eq] at h
      obtain ⟨⟨⟨⟨⟨rfl, hg⟩, hs⟩, hs2⟩, ha⟩, hb⟩ := h
      obtain ⟨p, q, rfl⟩ := vCallN_eq e
      exact i_rng2 (gl_of G hg).1 G.b2.1 (e_ok a G ha).1 (e_ok b G hb).1 (by rw [star_eq hs, star_eq hs2]; rfl) (star_eq hs2)
    · cases h
  | .rng3 a b d, c, tg, x, X, Wx, G, h => by
    unfold chkIt at h
    split at h
    · rename_i n l r t e
      simp only [Bool.and_eq_true, decide_eq_true_eq] at h
      obtain ⟨⟨⟨⟨⟨⟨⟨rfl, hg⟩, hs⟩, hs2⟩, hs3⟩, ha⟩, hb⟩, hd⟩ := h
      obtain ⟨p, q, rfl⟩ := vCallN_eq e
      exact i_rng3 (gl_of G hg).1 G.b2.1 (e_ok a G ha).1 (e_ok b G hb).1 (e_ok d G hd).1 (star_eq hs) (star_eq hs2) (star_eq hs3) (by rw [star_eq hs2, star_eq hs3]; rfl)
    · cases h
  | .enum e', c, tg, x, X, Wx, G, h => by
    unfold chkIt at h
    split at h
    · rename_i n l ts e et
      simp only [Bool.and_eq_true, decide_eq_true_eq] at h
      obtain ⟨⟨⟨rfl, hg⟩, hs⟩, ha⟩ := h
      obtain ⟨p, q, rfl⟩ := vCallN_eq e
      obtain ⟨k, tp, rfl⟩ := vTup_eq et
      exact i_enum (gl_of G hg).1 G.b2.2.1 (e_ok e' G ha).1 (star_eq hs)
    · cases h
  | .zip _ _, c, tg, x, X, Wx, G, h => by simp [chkIt] at h
  | .rev e', c, tg, x, X, Wx, G, h => by
    unfold chkIt at h
    split at h
    · rename_i n l e
      simp only [Bool.and_eq_true, decide_eq_true_eq] at h
      obtain ⟨⟨⟨rfl, hg⟩, hs⟩, ha⟩ := h
      obtain ⟨p, q, rfl⟩ := vCallN_eq e
      exact i_rev (gl_of G hg).1 G.b2.2.2.1 (e_ok e' G ha).1 (star_eq hs)
    · cases h
end
end
end DL

namespace DL
open PySem PySem.Spec PyProof.Rows L2
/-! ### statements: the look -/
def nComp : Expr → Bool
  | .ListComp .. => false
  | .SetComp .. => false
  | .DictComp .. => false
  | _ => true
def vAsg : Stmt → Option (Expr × Expr × Pos)
  | .Assign [t] e p => some (t, e, p)
  | _ => none
def vSub : Expr → Option (Expr × Expr)
  | .Subscript a i _ => if nSl i = true then some (a, i) else none
  | _ => none
def isSkip : Stmt → Bool
  | .Expr (.Constant (.str _) _ _) _ => true
  | .Pass _ => true
  | _ => false
def nxt : List Stmt → Option (Stmt × List Stmt)
  | [] => none
  | x :: r => if isSkip x = true then nxt r else some (x, r)
def vExp : Stmt → Option Expr
  | .Expr v _ => some v
  | _ => none
def vRet : Stmt → Option (Option Expr)
  | .Return v _ => some v
  | _ => none
def vIf : Stmt → Option (Expr × List Stmt × List Stmt)
  | .If t p q _ => some (t, p, q)
  | _ => none
def vFor : Stmt → Option (Expr × Expr × List Stmt)
  | .For tg iter body [] _ => some (tg, iter, body)
  | _ => none
def vWhl : Stmt → Option (Expr × List Stmt)
  | .While t body [] _ => some (t, body)
  | _ => none
/-- the store is a plain one -/
def swC (c : Ck) (t e : Expr) : Bool := nComp e || (match t with
  | .Name n _ => !(c.is n .local)
  | _ => true)
def pairC (t e : Expr) : Bool := match t, e with
  | .Tuple .., .Tuple .. => false
  | .List .., .Tuple .. => false
  | _, _ => true
def nmC : Expr → Option (Str × Nat)
  | .Name n p => some (n, p.line)
  | _ => none
/-- a list comprehension stored in a local on the same line -/
def lcC (c : Ck) (t e : Expr) : Bool := match t, e with
  | .Name n py, .ListComp _ _ scope p => c.is n .local && (py.line == p.line) && !(scope.names.any fun (m, k) => m == n && (k == .local || k == .cell)) && (match c.sc.kind with | .function => true | _ => false)
  | _, _ => false
def parC (c : Ck) (ts vs : List Expr) (names : List Str) : Bool := match names with
  | [x, y] => (match ts, vs with
    | [.Name a pa, .Name b pb], [v, w] => decide (a = x) && decide (b = y) && c.is x .local && c.is y .local && (pb.line == pa.line) && !(y == x) && nStar v && nStar w && !([v, w].all (foldedForSure 8)) && !([v, w].all (constantsAlone 8)) && (match c.sc.kind with | .function => true | _ => false)
    | _, _ => false)
  | [x, y, z] => (match ts, vs with
    | [.Name a pa, .Name b pb, .Name d pd], [u, v, w] => decide (a = x) && decide (b = y) && decide (d = z) && c.is x .local && c.is y .local && c.is z .local && (pb.line == pa.line) && (pd.line == pa.line) && !(y == x) && !(z == x) && !(z == y) && nStar u && nStar v && nStar w && !([u, v, w].all (foldedForSure 8)) && !([u, v, w].all (constantsAlone 8)) && (match c.sc.kind with | .function => true | _ => false)
    | _, _ => false)
  | _ => false
mutual
def chkS : St → Ck → Stmt → Bool
  | .asg (.tg t) e, c, x => match vAsg x with
    | some (tg, v, _) => chkTg c t tg && nStar tg && chkE e c v && ((swC c tg v && pairC tg v) || (match t, e with
      | .nm _, .comp .. => lcC c tg v
      | _, _ => false))
    | none => false
  | .asg (.sub o i) e, c, x => match vAsg x with
    | some (tg, v, _) => (match vSub tg with
      | some (l, r) => chkE o c l && chkE i c r && chkE e c v
      | none => false)
    | none => false
  | .asg (.fld k o f) e, c, x => match vAsg x with
    | some (tg, v, _) => (match vAtt tg with
      | some (l, g) => decide (g = f) && nComp v && c.kl.atts.contains (k, f) && chkE o c l && chkE e c v
      | none => false)
    | none => false
  | .par is es, c, x => match vAsg x with
    | some (tg, v, _) => (match vTup tg, vTup v with
      | some ts, some vs => (match is.mapM (fun i => c.N[i]?) with
        | some names => parC c ts vs names && chkEs es c vs
        | none => false)
      | _, _ => false)
    | none => false
  | .expr e, c, x => match vExp x with
    | some v => nComp v && chkE e c v
    | none => false
  | .ret e, c, x => match vRet x with
    | some (some v) => chkE e c v
    | _ => false
  | .retN, _, x => match vRet x with
    | some none => true
    | _ => false
  | .ife k a b, c, x => match vIf x with
    | some (t, p, q) => tst k && chkE k c t && chkSs a c p && chkSs b c q
    | none => false
  | .fr t it b, c, x => match vFor x with
    | some (tg, iter, body) => chkTg c t tg && chkIt it c tg iter && nSet iter && chkSs b c body
    | none => false
  | .whl k b, c, x => match vWhl x with
    | some (t, body) => tst k && chkE k c t && chkSs b c body
    | none => false
  | .gh _, _, _ => false
  | .nev, _, _ => true
def chkSs : Sts → Ck → List Stmt → Bool
  | .nil, _, xs => (nxt xs).isNone
  | .cons s r, c, xs => match s with
    | .gh _ => chkSs r c xs
    | s => match nxt xs with
      | some (x, rest) => chkS s c x && chkSs r c rest
      | none => false
end
/-! ### the look is right -/
theorem vAsg_eq {x : Stmt} {t e : Expr} {p : Pos} (h : vAsg x = some (t, e, p)) : x = .Assign [t] e p := by
  unfold vAsg at h
  split at h
  · cases h; rfl
  · cases h
theorem vSub_eq {x a i : Expr} (h : vSub x = some (a, i)) : ∃ p, x = .Subscript a i p ∧ nSl i = true := by
  cases x <;> simp [vSub] at h
  obtain ⟨h0, rfl, rfl⟩ := h; exact ⟨_, rfl, h0⟩
theorem vExp_eq {x : Stmt} {v : Expr} (h : vExp x = some v) : ∃ p, x = .Expr v p := by
  unfold vExp at h
  split at h
  · cases h; exact ⟨_, rfl⟩
  · cases h
theorem vRet_eq {x : Stmt} {v : Option Expr} (h : vRet x = some v) : ∃ p, x = .Return v p := by
  unfold vRet at h
  split at h
  · cases h; exact ⟨_, rfl⟩
  · cases h
theorem vIf_eq {x : Stmt} {t : Expr} {p q : List Stmt} (h : vIf x = some (t, p, q)) : ∃ ps, x = .If t p q ps := by
  unfold vIf at h
  split at h
  · cases h; exact ⟨_, rfl⟩
  · cases h
theorem vFor_eq {x : Stmt} {t i : Expr} {p : List Stmt} (h : vFor x = some (t, i, p)) : ∃ ps, x = .For t i p [] ps := by
  unfold vFor at h
  split at h
  · cases h; exact ⟨_, rfl⟩
  · cases h
theorem vWhl_eq {x : Stmt} {t : Expr} {p : List Stmt} (h : vWhl x = some (t, p)) : ∃ ps, x = .While t p [] ps := by
  unfold vWhl at h
  split at h
  · cases h; exact ⟨_, rfl⟩
  · cases h
theorem sw_none {v : Expr} {line : Nat} {env : Env} (h : nComp v = true) : swapsWith v none line env = pure false := by
  cases v <;> first | rfl | cases h
theorem sw_comp {t v : Expr} {line : Nat} {env : Env} (h : nComp v = true) : swapsWith v (some t) line env = pure false := by
  cases v <;> first | rfl | cases h
theorem ps_pair {t e : Expr} {env : Env} (h : pairC t e = true) : swappedStores [t] e env = pure none := by
  cases t <;> first | rfl | (cases e <;> first | rfl | cases h)
section
variable {P : Pg} {C : Ctx}
theorem sw_ok {c : Ck} {X : Cx} {Wx : WX} (G : Gd P C c X Wx) {t v : Expr} {line : Nat} (h : swC c t v = true) : swapsWithSole [t] v line X.env = pure false := by
  show swapsWith v (some t) line X.env = pure false
  unfold swC at h
  simp only [Bool.or_eq_true] at h
  rcases h with h | h
  · exact sw_comp h
  · cases t with
    | Name n p =>
      simp only [Ck.is, Bool.not_eq_true', decide_eq_false_iff_not] at h
      have hk : (X.env.kindOf n == some .local) = false := by
        rw [beq_eq_false_iff_ne]
        unfold Env.kindOf; rw [G.sc]; exact h
      cases v <;> first | rfl | (unfold swapsWith; simp only [hk, Bool.and_false, Bool.false_and]; try rfl)
    | _ => cases v <;> rfl
theorem nxt_some {X : Cx} {Wx : WX} : ∀ {xs : List Stmt} {x : Stmt} {r : List Stmt} {ev : Rho → M Fl}, nxt xs = some (x, r) → PSsd X C Wx (x :: r) ev → PSsd X C Wx xs ev
  | [], _, _, _, h, _ => by cases h
  | y :: ys, x, r, ev, h, k => by
    unfold nxt at h
    by_cases hs : isSkip y = true
    · rw [if_pos hs] at h
      refine s_skip ?_ (nxt_some h k)
      unfold isSkip at hs
      split at hs
      · exact ps_doc
      · exact ps_pass
      · cases hs
    · rw [if_neg hs] at h
      cases h; exact k
theorem nxt_none {X : Cx} {Wx : WX} : ∀ {xs : List Stmt} {ev : Rho → M Fl}, nxt xs = none → PSsd X C Wx [] ev → PSsd X C Wx xs ev
  | [], _, h, k => k
  | y :: ys, ev, h, k => by
    unfold nxt at h
    by_cases hs : isSkip y = true
    · rw [if_pos hs] at h
      refine s_skip ?_ (nxt_none h k)
      unfold isSkip at hs
      split at hs
      · exact ps_doc
      · exact ps_pass
      · cases hs
    · rw [if_neg hs] at h
      cases h
theorem setLc_ok {c : Ck} {X : Cx} {Wx : WX} (G : Gd P C c X Wx) {m : Bool} {own : List (Str × Nat)} {tg : Tg} {it : It} {k : Eo} {el : E} {i : Nat} {t v : Expr} {pos : Pos} (ht : chkTg c (.nm i) t = true) (h : chkE (.comp m own tg it k el) c v = true) (hl : lcC c t v = true) :
    PSd X C Wx (.Assign [t] v pos) (evS P (.asg (.tg (.nm i)) (.comp m own tg it k el))) := by
  unfold chkTg at ht
  cases e : vName t with
  | none => rw [e] at ht; cases ht
  | some n =>
    rw [e] at ht
    simp only [Bool.and_eq_true, decide_eq_true_eq] at ht
    obtain ⟨py, rfl⟩ := vName_eq e
    have hi : X.N[i]? = some n := by rw [G.N]; exact ht.1
    unfold chkE at h
    cases e : vComp v with
    | none => rw [e] at h; cases h
    | some tt =>
      obtain ⟨elt, tgt, iter, k', scope⟩ := tt
      rw [e] at h
      simp only [Bool.and_eq_true] at h
      obtain ⟨⟨⟨⟨⟨⟨⟨hi', hs⟩, hb⟩, htg⟩, hsub⟩, hk⟩, hkt⟩, he⟩ := h
      obtain ⟨p, rfl⟩ := vComp_eq e
      simp only [lcC, Ck.is, Bool.and_eq_true, decide_eq_true_eq, Bool.not_eq_true'] at hl
      obtain ⟨⟨⟨hl1, hl2⟩, hl3⟩, hl4⟩ := hl
      have hy : X.env.scope.names.lookup n = some .local := by rw [G.sc]; exact hl1
      have kf : X.env.scope.kind = .function := by
        rw [G.sc]
        split at hl4
        · assumption
        · cases hl4
      have fin : ∀ {cnd : Option (Rho → M Bool)} {D : Ends} {σ : L2.St} {H : Hp}, dS X.K C Wx (fun ρ => catch_ ρ (bnd (bnd (evIt P it ρ) fun s => bnd (noEx (compGo s (compF (own.map (·.2)) tg cnd (evE P el) ρ) s.xs [])) (newL m)) fun v => evTa P (.tg (.nm i)) v ρ)) D σ H →
          tAsg (tLc (dI X.K C (exW X.K C Wx) (evIt P it)) (gT X.K tg) (dC X.K C cnd) (dT X.K C exNo (evE P el)) (own.map (·.2))) (gName i) D σ H := by
        rintro cnd D σ H ⟨W, S, ρ, s, r, q⟩
        have q := catch_run r q
        refine lc_run (m := m) (subs_of hsub) ?_
        refine dT.one s r q fun a S1 W1 H1 v l1 s1 r1 ra q => ?_
        unfold evTa ofO at q
        cases es : setTg (.nm i) a ρ with
        | none => simp only [es] at q; exact q.elim
        | some ρ' =>
          simp only [es, Option.map] at q
          exact gT_run s1 (.nm i) es r1 ra fun σ' r' _ => q _ _ (.nx σ') (Tr.refl s1) s1 r'
      cases k with
      | no =>
        cases k' with
        | some k' => simp [chkEo] at hk
        | none =>
          exact PS.weak (ps_setLc G.calm G.nd hi hy (sw_true kf hy hl2 hl3) (it_ok it G hi') (blkOk_by (own := own) (by rw [G.N, G.sc]; exact hb)) (g := gT X.K tg) (tt := dC X.K C none) (te := dT X.K C exNo (evE P el)) (fun s H A cl fp => tg_ok G.blk tg tgt htg) (fun s H A cl fp => pts_nil) (fun s H A cl fp => PE.weak (e_ok el G.blk he).1 fun σ H Q q => dT_no q) (fold_eq hs)) fun D σ H q => fin q
      | yes k =>
        cases k' with
        | none => simp [chkEo] at hk
        | some k' =>
          simp only [chkEo] at hk
          exact PS.weak (ps_setLc G.calm G.nd hi hy (sw_true kf hy hl2 hl3) (it_ok it G hi') (blkOk_by (own := own) (by rw [G.N, G.sc]; exact hb)) (g := gT X.K tg) (tt := dC X.K C (some fun ρ1 => bnd (evE P k ρ1) toB)) (te := dT X.K C exNo (evE P el)) (fun s H A cl fp => tg_ok G.blk tg tgt htg) (fun s H A cl fp => pts_one (PT.weak ((e_ok k G.blk hk).2 hkt) fun σ H Q q => dB_no q)) (fun s H A cl fp => PE.weak (e_ok el G.blk he).1 fun σ H Q q => dT_no q) (fold_eq hs)) fun D σ H q => fin q
theorem par2_stores {X : Cx} {x y : Str} {v w : Expr} {pa pb pt pt2 : Pos} {kt k2 : Nat} (kf : X.env.scope.kind = .function) (hx : X.env.scope.names.lookup x = some .local) (hy : X.env.scope.names.lookup y = some .local) (hl : (pb.line == pa.line) = true) (hn : (y == x) = false) (hv : nStar v = true) (hw : nStar w = true)
    (h1 : [v, w].all (foldedForSure 8) = false) (h2 : [v, w].all (constantsAlone 8) = false) : swappedStores [.Tuple [.Name x pa, .Name y pb] kt pt] (.Tuple [v, w] k2 pt2) X.env = pure (some [x, y]) := by
  have kx : X.env.kindOf x = some .local := hx
  have ky : X.env.kindOf y = some .local := hy
  have hb : X.env.blockKind = .function := by unfold Env.blockKind; rw [kf]; rfl
  have hvs : ([v, w].any fun | .Starred .. => true | _ => false) = false := by
    simp only [List.any_cons, List.any_nil, Bool.or_false, Bool.or_eq_false_iff]
    constructor
    · cases v <;> first | rfl | cases hv
    · cases w <;> first | rfl | cases hw
  have hl' : pb.line = pa.line := by simpa using hl
  have hxy : ¬ y = x := by simpa using hn
  have hnames : ([x, y].eraseDups.length != [x, y].length) = false := by
    have : [x, y].eraseDups = [x, y] := by
      simp [List.eraseDups_cons, hxy]
    rw [this]; rfl
  have hnm : ([Expr.Name x pa, .Name y pb].filterMap fun
      | .Name id pos => if X.env.kindOf id == some .local && pos.line == pa.line then some id else none
      | _ => none) = [x, y] := by
    simp [List.filterMap_cons, kx, ky, hl']
  have hl0 : ((([Expr.Name x pa, .Name y pb] : List Expr).head?.map (·.pos.line)).getD 0) = pa.line := rfl
  unfold swappedStores
  have e : ∀ (f : Expr → Bool), (∀ x, nStar x = true → f x = false) → [v, w].any f = false := fun f hf => by simp [hf v hv, hf w hw]
  simp only [hb, hl0, h1, h2, List.filterMap_cons, List.filterMap_nil, kx, ky, hl', beq_self_eq_true, Bool.and_self, if_true, hnames]
  rw [e _ (by intro x hx; cases x <;> first | rfl | cases hx)]
  rfl
theorem par3_stores {X : Cx} {x y z : Str} {u v w : Expr} {pa pb pd pt pt2 : Pos} {kt k2 : Nat} (kf : X.env.scope.kind = .function) (hx : X.env.scope.names.lookup x = some .local) (hy : X.env.scope.names.lookup y = some .local) (hz : X.env.scope.names.lookup z = some .local) (hl : (pb.line == pa.line) = true) (hl2 : (pd.line == pa.line) = true)
    (hn : (y == x) = false) (hn2 : (z == x) = false) (hn3 : (z == y) = false) (hu : nStar u = true) (hv : nStar v = true) (hw : nStar w = true)
    (h1 : [u, v, w].all (foldedForSure 8) = false) (h2 : [u, v, w].all (constantsAlone 8) = false) : swappedStores [.Tuple [.Name x pa, .Name y pb, .Name z pd] kt pt] (.Tuple [u, v, w] k2 pt2) X.env = pure (some [x, y, z]) := by
  have kx : X.env.kindOf x = some .local := hx
  have ky : X.env.kindOf y = some .local := hy
  have kz : X.env.kindOf z = some .local := hz
  have hb : X.env.blockKind = .function := by unfold Env.blockKind; rw [kf]; rfl
  have hvs : ([u, v, w].any fun | .Starred .. => true | _ => false) = false := by
    simp only [List.any_cons, List.any_nil, Bool.or_false, Bool.or_eq_false_iff]
    refine ⟨?_, ?_, ?_⟩
    · cases u <;> first | rfl | cases hu
    · cases v <;> first | rfl | cases hv
    · cases w <;> first | rfl | cases hw
  have hl' : pb.line = pa.line := by simpa using hl
  have hl2' : pd.line = pa.line := by simpa using hl2
  have hxy : ¬ y = x := by simpa using hn
  have hxz : ¬ z = x := by simpa using hn2
  have hyz : ¬ z = y := by simpa using hn3
  have hnames : ([x, y, z].eraseDups.length != [x, y, z].length) = false := by
    have : [x, y, z].eraseDups = [x, y, z] := by
      simp [List.eraseDups_cons, hxy, hxz, hyz]
    rw [this]; rfl
  have hnm : ([Expr.Name x pa, .Name y pb, .Name z pd].filterMap fun
      | .Name id pos => if X.env.kindOf id == some .local && pos.line == pa.line then some id else none
      | _ => none) = [x, y, z] := by
    simp [List.filterMap_cons, kx, ky, kz, hl', hl2']
  have hl0 : ((([Expr.Name x pa, .Name y pb, .Name z pd] : List Expr).head?.map (·.pos.line)).getD 0) = pa.line := rfl
  unfold swappedStores
  have e : ∀ (f : Expr → Bool), (∀ x, nStar x = true → f x = false) → [u, v, w].any f = false := fun f hf => by simp [hf u hu, hf v hv, hf w hw]
  simp only [hb, hl0, h1, h2, List.filterMap_cons, List.filterMap_nil, kx, ky, kz, hl', hl2', beq_self_eq_true, Bool.and_self, if_true, hnames]
  rw [e _ (by intro x hx; cases x <;> first | rfl | cases hx)]
  rfl
mutual
theorem s_ok : ∀ (s : St) {c : Ck} {x : Stmt} {X : Cx} {Wx : WX}, Gd P C c X Wx → PassesOwn (model X.prog X.w) X.A X.env X.xe → chkS s c x = true → PSd X C Wx x (evS P s)
  | .asg (.tg t) e, c, x, X, Wx, G, hp, h => by
    unfold chkS at h
    cases ex : vAsg x with
    | none => rw [ex] at h; cases h
    | some tt =>
      obtain ⟨tg, v, p⟩ := tt
      rw [ex] at h
      simp only [Bool.and_eq_true, Bool.or_eq_true] at h
      obtain ⟨⟨⟨h1, h2⟩, h3⟩, h4⟩ := h
      rw [vAsg_eq ex]
      rcases h4 with ⟨h4, h5⟩ | h4
      · exact s_asg (e_ok e G h3).1 (tg_ok G t tg h1) (sw_ok G h4) (ps_pair h5) (by rw [asg_eq h2]; rfl)
      · split at h4
        · exact setLc_ok G h1 h3 h4
        · cases h4
  | .asg (.sub o i) e, c, x, X, Wx, G, hp, h => by
    unfold chkS at h
    cases ex : vAsg x with
    | none => rw [ex] at h; cases h
    | some tt =>
      obtain ⟨tg, v, p⟩ := tt
      rw [ex] at h
      dsimp only at h
      cases es : vSub tg with
      | none => rw [es] at h; cases h
      | some t2 =>
        obtain ⟨l, r⟩ := t2
        rw [es] at h
        simp only [Bool.and_eq_true] at h
        obtain ⟨⟨h1, h2⟩, h3⟩ := h
        rw [vAsg_eq ex]
        obtain ⟨sp, rfl, hs⟩ := vSub_eq es
        exact s_sub G.hw G.hu (e_ok e G h3).1 (e_ok o G h1).1 (e_ok i G h2).1 (fun v => by cases r <;> first | rfl | cases hs) (by cases v <;> rfl) (by cases v <;> rfl) rfl
  | .asg (.fld k o f) e, c, x, X, Wx, G, hp, h => by
    unfold chkS at h
    cases ea : vAsg x with
    | none => rw [ea] at h; cases h
    | some t =>
      obtain ⟨tg, v, p⟩ := t
      rw [ea] at h
      cases et : vAtt tg with
      | none => simp only [et] at h; cases h
      | some u =>
        obtain ⟨l, g⟩ := u
        simp only [et, Bool.and_eq_true, decide_eq_true_eq] at h
        obtain ⟨⟨⟨⟨rfl, hn⟩, ha⟩, ho⟩, he⟩ := h
        obtain rfl := vAsg_eq ea
        obtain ⟨p2, rfl⟩ := vAtt_eq et
        exact s_fld (G.att k g ha) (e_ok o G ho).1 (e_ok e G he).1 (sw_comp hn)
  | .par is es, c, x, X, Wx, G, hp, h => by
    unfold chkS at h
    cases ex : vAsg x with
    | none => rw [ex] at h; cases h
    | some tt =>
      obtain ⟨tg, v, p⟩ := tt
      rw [ex] at h
      dsimp only at h
      split at h
      · rename_i ts vs e1 e2
        split at h
        · rename_i names em
          simp only [Bool.and_eq_true] at h
          obtain ⟨h1, h2⟩ := h
          rw [vAsg_eq ex]
          obtain ⟨k1, p1, rfl⟩ := vTup_eq e1
          obtain ⟨k2, p2, rfl⟩ := vTup_eq e2
          have idx : ∀ {is : List Nat} {names : List Str}, is.mapM (fun i => c.N[i]?) = some names → Paired (fun i n => X.N[i]? = some n) is names := by
            intro is
            induction is with
            | nil => intro names e; cases e; exact .nil
            | cons i is ih =>
              intro names e
              rw [List.mapM_cons] at e
              cases e1 : c.N[i]? with
              | none => rw [e1] at e; cases e
              | some n =>
                cases e2 : is.mapM (fun i => c.N[i]?) with
                | none => rw [e1, e2] at e; cases e
                | some ns =>
                  rw [e1, e2] at e
                  cases e
                  exact .cons (by rw [G.N]; exact e1) (ih e2)
          have ix := idx em
          unfold parC at h1
          split at h1
          · rename_i x y
            split at h1
            · rename_i a pa b pb v w
              simp only [Bool.and_eq_true, decide_eq_true_eq, Bool.not_eq_true', Ck.is] at h1
              obtain ⟨⟨⟨⟨⟨⟨⟨⟨⟨⟨rfl, rfl⟩, lx⟩, ly⟩, hl⟩, hn⟩, hv⟩, hw⟩, hf⟩, hc⟩, kf⟩ := h1
              have kf : X.env.scope.kind = .function := by
                rw [G.sc]
                split at kf
                · assumption
                · cases kf
              rw [← G.sc] at lx ly
              cases ix with
              | cons i1 ix =>
                cases ix with
                | cons i2 ix =>
                  cases ix
                  refine s_par2 G.calm G.nd i1 i2 (fun z => ?_) lx ly (es_ok es G h2).1 (par2_stores kf lx ly hl hn hv hw hf hc)
                  subst z
                  rw [i1] at i2
                  cases i2
                  simp at hn
            · cases h1
          · rename_i x y z
            split at h1
            · rename_i a pa b pb d pd u v w
              simp only [Bool.and_eq_true, decide_eq_true_eq, Bool.not_eq_true', Ck.is] at h1
              obtain ⟨⟨⟨⟨⟨⟨⟨⟨⟨⟨⟨⟨⟨⟨⟨⟨rfl, rfl⟩, rfl⟩, lx⟩, ly⟩, lz⟩, hl⟩, hl2⟩, hn⟩, hn2⟩, hn3⟩, hu⟩, hv⟩, hw⟩, hf⟩, hc⟩, kf⟩ := h1
              have kf : X.env.scope.kind = .function := by
                rw [G.sc]
                split at kf
                · assumption
                · cases kf
              rw [← G.sc] at lx ly lz
              cases ix with
              | cons i1 ix =>
                cases ix with
                | cons i2 ix =>
                  cases ix with
                  | cons i3 ix =>
                    cases ix
                    refine s_par3 G.calm G.nd i1 i2 i3 (fun z => ?_) (fun z => ?_) (fun z => ?_) lx ly lz (es_ok es G h2).1 (par3_stores kf lx ly lz hl hl2 hn hn2 hn3 hu hv hw hf hc)
                    · subst z; rw [i1] at i2; cases i2; simp at hn
                    · subst z; rw [i1] at i3; cases i3; simp at hn2
                    · subst z; rw [i2] at i3; cases i3; simp at hn3
            · cases h1
          · cases h1
        · cases h
      · cases h
  | .expr e, c, x, X, Wx, G, hp, h => by
    unfold chkS at h
    cases ex : vExp x with
    | none => rw [ex] at h; cases h
    | some v =>
      rw [ex] at h
      simp only [Bool.and_eq_true] at h
      obtain ⟨p, rfl⟩ := vExp_eq ex
      exact s_expr (e_ok e G h.2).1 (sw_none h.1)
  | .ret e, c, x, X, Wx, G, hp, h => by
    unfold chkS at h
    cases ex : vRet x with
    | none => rw [ex] at h; cases h
    | some v =>
      rw [ex] at h
      cases v with
      | none => cases h
      | some v =>
        obtain ⟨p, rfl⟩ := vRet_eq ex
        exact s_ret (e_ok e G h).1
  | .retN, c, x, X, Wx, G, hp, h => by
    unfold chkS at h
    cases ex : vRet x with
    | none => rw [ex] at h; cases h
    | some v =>
      rw [ex] at h
      cases v with
      | some v => cases h
      | none =>
        obtain ⟨p, rfl⟩ := vRet_eq ex
        exact s_retN
  | .nev, c, x, X, Wx, G, hp, h => ⟨fun pins s σ H D I q => by
    obtain ⟨W, S, ρ, _, _, q⟩ := q
    exact False.elim q⟩
  | .ife k a b, c, x, X, Wx, G, hp, h => by
    unfold chkS at h
    cases ex : vIf x with
    | none => rw [ex] at h; cases h
    | some t =>
      obtain ⟨t, p, q⟩ := t
      rw [ex] at h
      simp only [Bool.and_eq_true] at h
      obtain ⟨⟨⟨h1, h2⟩, h3⟩, h4⟩ := h
      obtain ⟨ps, rfl⟩ := vIf_eq ex
      exact s_ife ((e_ok k G h2).2 h1) (ss_ok a G hp h3) (ss_ok b G hp h4)
  | .fr t it b, c, x, X, Wx, G, hp, h => by
    unfold chkS at h
    cases ex : vFor x with
    | none => rw [ex] at h; cases h
    | some tt =>
      obtain ⟨tg, iter, body⟩ := tt
      rw [ex] at h
      simp only [Bool.and_eq_true] at h
      obtain ⟨⟨⟨h1, h2⟩, h3⟩, h4⟩ := h
      obtain ⟨ps, rfl⟩ := vFor_eq ex
      exact s_for hp G.calm (it_ok it G h2) (tg_ok G t tg h1) (ss_ok b G hp h4) (fold_eq h3)
  | .whl k b, c, x, X, Wx, G, hp, h => by
    unfold chkS at h
    cases ex : vWhl x with
    | none => rw [ex] at h; cases h
    | some tt =>
      obtain ⟨t, body⟩ := tt
      rw [ex] at h
      simp only [Bool.and_eq_true] at h
      obtain ⟨⟨h1, h2⟩, h3⟩ := h
      obtain ⟨ps, rfl⟩ := vWhl_eq ex
      exact s_while hp ((e_ok k G h2).2 h1) (ss_ok b G hp h3)
  | .gh _, c, x, X, Wx, G, hp, h => by simp [chkS] at h
theorem ss_ok : ∀ (s : Sts) {c : Ck} {x : List Stmt} {X : Cx} {Wx : WX}, Gd P C c X Wx → PassesOwn (model X.prog X.w) X.A X.env X.xe → chkSs s c x = true → PSsd X C Wx x (evSs P s)
  | .nil, c, xs, X, Wx, G, hp, h => by
    simp only [chkSs, Option.isNone_iff_eq_none] at h
    exact nxt_none h s_nil
  | .cons s r, c, xs, X, Wx, G, hp, h => by
    by_cases hg : ∃ i, s = .gh i
    · obtain ⟨i, rfl⟩ := hg
      exact s_gh (i := i) (ss_ok r G hp (by simpa only [chkSs] using h))
    have hg : ∀ i, s ≠ .gh i := fun i e => hg ⟨i, e⟩
    have h : (match nxt xs with
      | some (x, rest) => chkS s c x && chkSs r c rest
      | none => false) = true := by
      cases s with
      | gh i => exact absurd rfl (hg i)
      | _ => exact h
    cases e : nxt xs with
    | none => rw [e] at h; cases h
    | some t =>
      obtain ⟨x, rest⟩ := t
      rw [e] at h
      simp only [Bool.and_eq_true] at h
      exact nxt_some e (s_cons (s_ok s G hp h.1) (ss_ok r G hp h.2))
end
end
end DL

namespace DL
open PySem PySem.Spec PyProof.Rows L2
/-! ### the defs -/
/-- the classes that stand under the text's own names -/
def clsOf (K : PySem.W.Frag) : Str → Option Addr := fun c => match PySem.W.nsIn K mainGlobals c with
  | some (some (.ref a)) => some a
  | _ => none
structure BodyFact (K : PySem.W.Frag) (fs : List Str) (kl : Kl) (addr : Addr) (fd : FuncData) (d : Fd) : Prop where
  ex : ∃ (x qual : Str) (st : Stmt), Fun K x qual st addr fd ∧ FnScope d.nm d.ps (defScope st) ∧ (∀ us : List Value, us.length = d.ps.length → bindArgs fd ⟨us, []⟩ = pure (d.ps.zip us)) ∧ chkSs d.body ⟨d.nm, defScope st, none, fs, kl⟩ (defBody st) = true
structure FnFact (K : PySem.W.Frag) (mg : Str → Option Value) (fs : List Str) (kl : Kl) (f : Str) (d : Fd) : Prop where
  ex : ∃ (addr : Addr) (fd : FuncData), BodyFact K fs kl addr fd d ∧ mg f = some (.ref addr)
structure MtFact (K : PySem.W.Frag) (C : Ctx) (fs : List Str) (kl : Kl) (k m : Str) (d : Fd) : Prop where
  ex : ∃ (a addr : Addr) (fd : FuncData), BodyFact K fs kl addr fd d ∧ C k = some a ∧ Cls K a ∧ Meth K a m addr
structure NwFact (K : PySem.W.Frag) (mg : Str → Option Value) (C : Ctx) (fs : List Str) (kl : Kl) (k : Str) (d : Fd) : Prop where
  ex : ∃ (a addr : Addr) (fd : FuncData), BodyFact K fs kl addr fd d ∧ C k = some a ∧ mg k = some (.ref a) ∧ Mk K a addr
structure Env1 (K : PySem.W.Frag) (mg : Str → Option Value) (C : Ctx) (gl : Str → Option PyData) (T : List (Str × Fd)) (fs : List Str) (kl : Kl) : Prop where
  fn : ∀ f d, fs.contains f = true → T.lookup f = some d → FnFact K mg fs kl f d
  all : ∀ f, fs.contains f = true → ∃ d, T.lookup f = some d
  gl : ∀ g d, gl g = some d → ∃ v u, mg g = some u ∧ RelV v u ∧ ∀ W, RV K W (.d d) v
  bt : ∀ b : Bi, mg b.name = none
  b2 : mg "range" = none ∧ mg "enumerate" = none ∧ mg "reversed" = none ∧ mg "zip" = none ∧ mg "isinstance" = none ∧ mg "sorted" = none ∧ mg "set" = none ∧ mg "bool" = none ∧ mg "dict" = none ∧ mg "repr" = none
  att : ∀ k f, kl.atts.contains (k, f) = true → ∃ a, C k = some a ∧ Cls K a ∧ NoAttr K a f
  met : ∀ k m, kl.mets.contains (k, m) = true → ∃ d, T.lookup (mkey k m) = some d ∧ MtFact K C fs kl k m d
  nw : ∀ k, kl.news.contains k = true → ∃ d, T.lookup (mkey k "__init__") = some d ∧ NwFact K mg C fs kl k d
section
variable {P : Program} {w : World} {K : PySem.W.Frag} {mg : Str → Option Value} {C : Ctx} {gl : Str → Option PyData} {T : List (Str × Fd)} {fs : List Str} {kl : Kl}
theorem re_start {W : Wd} {ds : List Vl} {vs : List V} {n : Nat} {N : List Str} (h : RVs K W ds vs) (hn : n = N.length) : RE K W (ds.map some ++ List.replicate (n - ds.length) none) (L2.start N vs) := by
  unfold L2.start
  rw [show ds.length = vs.length from paired_len h, hn]
  generalize N.length - vs.length = m
  induction h with
  | nil =>
    show Paired _ (List.replicate m none) (List.replicate m none)
    induction m with
    | zero => exact .nil
    | succ m ih => exact .cons (fun d e => by cases e) ih
  | cons h t ih => exact .cons (fun d e => by cases e; exact ⟨_, rfl, h⟩) ih
theorem run_fd {E : XK} {D : Fd} {PP : Pg} {ds : List Vl} {W : Wd} {S : Store} {H : Hp} {Q : VK} {Wx : WX} (hW : Wx = fun cls d _ H => E cls d H) (h : Run K C (exF K C E) (RV K) (runFd PP D ds S) W S H Q) :
    ds.length = D.ps.length ∧ Run K C exNv (RF K) (evSs PP D.body (ds.map some ++ List.replicate (D.nm.length - ds.length) none) S) W S H (QD K C Wx { nx := fun _ H' => Q .non H', rt := Q }) := by
  subst hW
  unfold runFd at h
  by_cases hl : ds.length = D.ps.length
  · refine ⟨hl, ?_⟩
    rw [if_pos hl] at h
    cases e : evSs PP D.body (ds.map some ++ List.replicate (D.nm.length - ds.length) none) S with
    | ok a S' =>
      rw [e] at h
      intro W' H' v t s ra
      cases a with
      | nx ρ =>
        cases v with
        | nx σ => exact h W' H' .non t s ⟨.non, rfl⟩
        | _ => exact ra.elim
      | rt a =>
        cases v with
        | rt x => exact h W' H' x t s ra
        | _ => exact ra.elim
      | ex c fs ρ =>
        cases v with
        | ex z σ c' fs' =>
          obtain ⟨rfl, rfl, rfl, _⟩ := ra
          exact fun cls d x => h W' H' t s cls d x
        | _ => exact ra.elim
    | ex c fs S' => rw [e] at h; exact h.elim
    | bad => rw [e] at h; exact h.elim
  · rw [if_neg hl] at h; exact h.elim
theorem binds_all {addr : Addr} {fd : FuncData} {d : Fd} (B : BodyFact K fs kl addr fd d) : Binds K fd d.ps [] ∧ PySem.W.keepIn K (.ref addr) = true := by
  obtain ⟨x, qual, st, F, S, hb, hc⟩ := B.ex
  exact ⟨.all hb, F.kp⟩
theorem cal_all (hw : C.w = w) (En : Env1 K mg C gl T fs kl) : ∀ (n : Nat) (f : Str) (d : Fd) (addr : Addr) (fd : FuncData), T.lookup f = some d → BodyFact K fs kl addr fd d → ∀ base : Heap, FnG P w K mg base (2 * n) addr fd d.ps (spF K C (fnAt gl T n f))
  | 0, f, d, addr, fd, h, B, base => by
    have no : ∀ vs H Q E, ¬ spF K C (fnAt gl T 0 f) vs H Q E := fun vs H Q E ⟨W, S, ds, _, _, q⟩ => q
    exact ⟨fun vs H Q E q => (no vs H Q E q).elim, fun A outer s H args us vs Q E _ _ _ _ _ q => (no vs H Q E q).elim⟩
  | n + 1, f, d, addr, fd, h, B, base => by
    obtain ⟨x, qual, st, F, S, hb, hc⟩ := B.ex
    have e : fnAt gl T (n + 1) f = runFd ⟨gl, fnAt gl T n⟩ d := by
      funext vs
      show (match T.lookup f with
        | some d => runFd ⟨gl, fnAt gl T n⟩ d vs
        | none => bad) = _
      rw [h]
    refine fnG_of (k := 2 * n + 1) F S (fun vs H Q E q => ?_) (fun cdv A outer s H vs Q E hr gd q => ?_)
    · obtain ⟨W, S, ds, s, r, q⟩ := q
      rw [e] at q
      rw [← paired_len r, (run_fd rfl q).1]
    · obtain ⟨W, S', ds, sr, r, q⟩ := q
      rw [e] at q
      obtain ⟨hl, q⟩ := run_fd rfl q
      have hr0 : Room (2 * n) (A.deeper (envOfC qual (defScope st) s.heap.objs.size addr cdv)) := hr.mono (Nat.le_succ _)
      have G : Gd ⟨gl, fnAt gl T n⟩ C ⟨d.nm, defScope st, none, fs, kl⟩ (cxOf (L2.CX P w) P w K mg base d.nm qual (defScope st) addr cdv A outer s H E) (fun cls d _ H => E cls d H) := by
        refine ⟨rfl, hw, S.nd, rfl, fun _ _ => rfl, rfl, ?_, takes_of rfl rfl rfl rfl, gd, En.gl, En.bt, En.b2, fun g hg => ?_, fun k g hk => ?_, fun k m hk => ?_, fun k hk => ?_⟩
        · have := hr.un
          show (A.deeper _).units + 66 < cLine
          omega
        · obtain ⟨d', hd'⟩ := En.all g hg
          obtain ⟨a', fd', B', hm⟩ := (En.fn g d' hg hd').ex
          obtain ⟨b1, b2⟩ := binds_all B'
          exact ⟨a', fd', d'.ps, 2 * n, cal_all hw En n g d' a' fd' hd' B' _, hr0, gd, hm, b2, b1⟩
        · exact En.att k g hk
        · obtain ⟨d', hd', M⟩ := En.met k m hk
          obtain ⟨a, a', fd', B', h1, h2, h3⟩ := M.ex
          exact ⟨a, a', fd', d'.ps, 2 * n, h1, h2, h3, cal_all hw En n _ d' a' fd' hd' B' _, hr0, gd, (binds_all B').1⟩
        · obtain ⟨d', hd', M⟩ := En.nw k hk
          obtain ⟨a, a', fd', B', h1, h2, h3⟩ := M.ex
          exact ⟨a, a', fd', d'.ps, 2 * n, h1, h2, h3, cal_all hw En n _ d' a' fd' hd' B' _, hr, gd, (binds_all B').1⟩
      exact ⟨_, ss_ok d.body G (passes_of rfl) hc, W, S', _, sr, re_start r rfl, q⟩
/-- one def's facts -/
theorem body_mk {x q : Str} {st : Stmt} {d : Fd} {f : Addr} {oc : Value} {od an : Option Addr} {sl : Array (Option Value)} {kV dc pm cd ct : Value}
    (l : K.lookup f = some ⟨oc, od, .func (PySem.W.fnOf x q (defArgs st) (defBody st) (defScope st) .none kV dc pm an cd ct), sl⟩) (c : PySem.W.codeIn K cd q = true) (k : PySem.W.keepIn K (.ref f) = true)
    (sc : C8.scC d.nm d.ps (defScope st) = true) (b : ∀ (kV doc pm : Value) (an : Option Addr) (cdv ct : Value) (us : List Value), us.length = d.ps.length → bindArgs (PySem.W.fnOf x q (defArgs st) (defBody st) (defScope st) .none kV doc pm an cdv ct) ⟨us, []⟩ = pure (d.ps.zip us))
    (ck : chkSs d.body ⟨d.nm, defScope st, none, fs, kl⟩ (defBody st) = true) : BodyFact K fs kl f (PySem.W.fnOf x q (defArgs st) (defBody st) (defScope st) .none kV dc pm an cd ct) d :=
  ⟨⟨x, q, st, fun_mk l c k, C8.fnScope_by sc, fun us hl => b kV dc pm an cd ct us hl, ck⟩⟩
theorem fact_mk {h : Heap} {x : Str} {st : Stmt} {d : Fd} {f : Addr} {oc : Value} {od an : Option Addr} {sl : Array (Option Value)} {kV dc pm cd ct : Value} (X : K.In h) (G : h.Ns mainGlobals mg)
    (a : PySem.W.nsIn K mainGlobals x = some (some (.ref f))) (l : K.lookup f = some ⟨oc, od, .func (PySem.W.fnOf x x (defArgs st) (defBody st) (defScope st) .none kV dc pm an cd ct), sl⟩) (c : PySem.W.codeIn K cd x = true) (k : PySem.W.keepIn K (.ref f) = true)
    (sc : C8.scC d.nm d.ps (defScope st) = true) (b : ∀ (kV doc pm : Value) (an : Option Addr) (cdv ct : Value) (us : List Value), us.length = d.ps.length → bindArgs (PySem.W.fnOf x x (defArgs st) (defBody st) (defScope st) .none kV doc pm an cdv ct) ⟨us, []⟩ = pure (d.ps.zip us))
    (ck : chkSs d.body ⟨d.nm, defScope st, none, fs, kl⟩ (defBody st) = true) : FnFact K mg fs kl x d :=
  ⟨⟨f, _, body_mk l c k sc b ck, PySem.W.mg_of X G a⟩⟩
theorem cls_at {w : World} {c : Str} {a : Addr} (h : PySem.W.nsIn K mainGlobals c = some (some (.ref a))) : (⟨clsOf K, w⟩ : Ctx) c = some a := by
  show clsOf K c = some a
  unfold clsOf
  rw [h]
theorem mg_gl {h : Heap} {x : Str} {v : V} {u : Value} {d : PyData} (X : K.In h) (G : h.Ns mainGlobals mg) (a : PySem.W.nsIn K mainGlobals x = some (some u)) (r : RelV v u) (k : ∀ W, RV K W (.d d) v) : ∃ v u, mg x = some u ∧ RelV v u ∧ ∀ W, RV K W (.d d) v :=
  ⟨v, u, PySem.W.mg_of X G a, r, k⟩
end
/-- a law, from what its text computes -/
theorem walk {l : PySem.W.OpenLaw} {q : Program} {loose : List Str} {XP : (Str → Option Value) → Heap → Prop} {YP : World → Heap → Prop} {d : DefRec} {K : Params → PySem.W.Frag} {gl : Str → Option PyData} {T : List (Str × Fd)} {fs : List Str} {kl : Kl} {k : Nat} {dl : Fd} {x : Str}
    (hn : l.most = some 63) (hdf : d.params.defaults = []) (hnm : d.name = ("law" : Str)) (hT : T.lookup ("law" : Str) = some dl) (hfs : fs.contains ("law" : Str) = true) (hps : dl.ps = [x]) (hr : Room (2 * k) callerA)
    (hlaw : ∀ ns : List Int, ns.length ≤ 63 → ∃ S', fnAt gl T k "law" [.scr ns] [] = .ok (.d (.bool true)) S')
    (hY : ∀ (w : World) (h : Heap), YP w h → (K w.params).In h)
    (F : ∀ (w : World) (mg : Str → Option Value) (h : Heap), (K w.params).In h → h.Ns mainGlobals mg → Env1 (K w.params) mg ⟨clsOf (K w.params), w⟩ gl T fs kl) :
    PySem.W.WalkO q loose XP YP l.row.toRowW d [] (fun f vs => PySem.call f vs) := by
  refine Att.attach_call hn hdf fun w s₀ s₁ mg mb fa o pm cd doc a vs ns Gr Y ho hd hcd hmg hobj hints hlen hg => ?_
  have kin := hY w _ Y
  have En := F w mg _ kin Gr.T.g
  obtain ⟨addr, fd, B, hm⟩ := (En.fn _ dl hfs hT).ex
  rw [hnm, hm] at hmg
  have e : addr = fa := by injection hmg with e; injection e
  subst e
  have H1 := cal_all (P := l.prog) (w := w) (C := ⟨clsOf (K w.params), w⟩) rfl En k "law" dl addr fd hT B
  obtain ⟨x0, qual, st, F0, S0, H4, hc0⟩ := B.ex
  rw [hps] at H1 H4
  refine head_call kin Gr.T.g Gr.T.b Gr.T.builtins Gr.T.nolimit hg hobj hints (Nat.le_trans hlen (by decide)) hr H1 (fun s u => .of_eq (H4 [u] rfl)) fun H hS => ?_
  obtain ⟨S', e⟩ := hlaw ns hlen
  refine ⟨⟨H, fun _ => 0, 0⟩, [], [.scr ns], ⟨rfl, fun _ _ e => e, fun n x e => by simp at e, fun n m ⟨_, e, _⟩ => by simp at e⟩, .cons ⟨a, rfl, hS⟩ .nil, ?_⟩
  rw [e]
  intro W' H' v _ _ rv
  obtain ⟨rv, _⟩ := rv
  cases rv
  rfl
end DL

namespace DL
open PySem PySem.Spec PyProof.Rows L2
/-! ### what a result meets -/
abbrev EX := Str → List (Str × PyData) → Store → Prop
def Ok {α : Type} (r : Rs α) (Q : α → Store → Prop) (E : EX) : Prop := match r with
  | .ok a S => Q a S
  | .ex c fs S => E c fs S
  | .bad => False
section
variable {α β : Type} {Q : α → Store → Prop} {E : EX} {S : Store}
@[simp] theorem ok_ok {a : α} : Ok (.ok a S) Q E ↔ Q a S := Iff.rfl
@[simp] theorem ok_ex {c : Str} {fs : List (Str × PyData)} : Ok (α := α) (.ex c fs S) Q E ↔ E c fs S := Iff.rfl
@[simp] theorem ok_bad : Ok (α := α) .bad Q E ↔ False := Iff.rfl
@[simp] theorem pur_eq {a : α} : pur a S = .ok a S := rfl
@[simp] theorem bad_eq : (bad : M α) S = .bad := rfl
@[simp] theorem ok_bnd {Q : β → Store → Prop} {m : M α} {g : α → M β} : Ok (bnd m g S) Q E ↔ Ok (m S) (fun a S' => Ok (g a S') Q E) E := by
  unfold bnd
  cases m S <;> rfl
@[simp] theorem bnd_okd {m : M α} {g : α → M β} {a : α} {S' : Store} (h : m S = .ok a S') : bnd m g S = g a S' := by unfold bnd; rw [h]; rfl
@[simp] theorem ok_noEx {m : M α} : Ok (noEx m S) Q E ↔ Ok (m S) Q fun _ _ _ => False := by
  unfold noEx
  cases m S <;> rfl
@[simp] theorem ite_at {c : Prop} [Decidable c] {m n : M α} : (if c then m else n) S = if c then m S else n S := by split <;> rfl
theorem Ok.imp {r : Rs α} {Q' : α → Store → Prop} {E' : EX} (h : Ok r Q E) (k : ∀ a S, Q a S → Q' a S) (ke : ∀ c fs S, E c fs S → E' c fs S) : Ok r Q' E' := by
  cases r with
  | ok a S => exact k _ _ h
  | ex c fs S => exact ke _ _ _ h
  | bad => exact h
/-- no exception -/
abbrev E0 : EX := fun _ _ _ => False
theorem Ok.imp0 {r : Rs α} {Q' : α → Store → Prop} (h : Ok r Q E0) (k : ∀ a S, Q a S → Q' a S) : Ok r Q' E := h.imp k fun _ _ _ z => z.elim
theorem ok_of {r : Rs α} {a : α} {S' : Store} (h : r = .ok a S') (q : Q a S') : Ok r Q E := by rw [h]; exact q
theorem of_ok0 {r : Rs α} (h : Ok r Q E0) : ∃ a S', r = .ok a S' ∧ Q a S' := by
  cases r with
  | ok a S => exact ⟨a, S, rfl, h⟩
  | ex c fs S => exact h.elim
  | bad => exact h.elim
@[simp] theorem ok_ofO {o : Option α} : Ok (ofO o S) Q E ↔ ∃ a, o = some a ∧ Q a S := by
  cases o with
  | none => simp [ofO, bad]
  | some a => simp [ofO, pur]
end
section
variable {Q : Fl → Store → Prop} {E : EX} {S : Store}
@[simp] theorem ok_catch {ρ : Rho} {m : M Fl} : Ok (catch_ ρ m S) Q E ↔ Ok (m S) Q fun c fs S' => Q (.ex c fs ρ) S' := by
  unfold catch_
  cases m S <;> rfl
end
@[simp] theorem ok_run {P : Pg} {d : Fd} {vs : List Vl} {S : Store} {Q : Vl → Store → Prop} {E : EX} : Ok (runFd P d vs S) Q E ↔ vs.length = d.ps.length ∧ Ok (evSs P d.body (vs.map some ++ List.replicate (d.nm.length - vs.length) none) S) (fun o S' => match o with
    | .nx _ => Q (.d .none) S'
    | .rt v => Q v S'
    | .ex c fs _ => E c fs S') (fun _ _ _ => False) := by
  unfold runFd
  by_cases h : vs.length = d.ps.length
  · rw [if_pos h]
    simp only [h, true_and]
    rw [← h]
    cases evSs P d.body (vs.map some ++ List.replicate (d.nm.length - vs.length) none) S with
    | ok a S' => cases a <;> rfl
    | _ => rfl
  · rw [if_neg h]
    simp [h, Ok]
theorem ok_fn {gl : Str → Option PyData} {T : List (Str × Fd)} {k : Nat} {f : Str} {d : Fd} {vs : List Vl} {S : Store} {Q : Vl → Store → Prop} {E : EX} (h : T.lookup f = some d) : Ok (fnAt gl T (k + 1) f vs S) Q E ↔ Ok (runFd ⟨gl, fnAt gl T k⟩ d vs S) Q E := by
  show Ok ((match T.lookup f with
    | some d => runFd ⟨gl, fnAt gl T k⟩ d vs
    | none => bad) S) Q E ↔ _
  rw [h]
@[simp] theorem ok_callI {P : Pg} {f : Str} {vs : List Vl} {S : Store} {Q : Vl → Store → Prop} {E : EX} : Ok (callP P false f vs S) Q E ↔ Ok (P.fn f vs S) Q E := Iff.rfl
@[simp] theorem ok_callT {P : Pg} {f : Str} {vs : List Vl} {S : Store} {Q : Vl → Store → Prop} {E : EX} : Ok (callP P true f vs S) Q E ↔ ∃ ds, pds vs = some ds ∧ Ok (P.fn f (ds.map .d) []) (fun v _ => ∃ x, v = .d x ∧ Q (.d x) S) (fun c fs _ => E c fs S) := by
  unfold callP
  simp only [if_true]
  cases e : pds vs with
  | none => simp [Ok]
  | some ds =>
    simp only [Option.some.injEq]
    constructor
    · intro h
      refine ⟨ds, rfl, ?_⟩
      cases er : P.fn f (ds.map .d) [] with
      | ok a S1 =>
        rw [er] at h
        cases a with
        | d x => exact ⟨x, rfl, h⟩
        | _ => exact h.elim
      | ex c fs S1 => rw [er] at h; exact h
      | bad => rw [er] at h; exact h.elim
    · rintro ⟨_, rfl, h⟩
      cases er : P.fn f (ds.map .d) [] with
      | ok a S1 =>
        rw [er] at h
        obtain ⟨x, rfl, h⟩ := h
        exact h
      | ex c fs S1 => rw [er] at h; exact h
      | bad => rw [er] at h; exact h.elim
@[simp] theorem guard0 {xs : List Vl} {S : Store} : guard ⟨xs, none⟩ S = .ok () S := by unfold guard; rw [if_pos]; trivial
/-! loops -/
theorem ok_guard {s : Src} {S : Store} {Q : Unit → Store → Prop} {E : EX} : Ok (guard s S) Q E ↔ s.ok S ∧ Q () S := by
  unfold guard
  by_cases h : s.ok S
  · rw [if_pos h]; simp [h]
  · rw [if_neg h]; simp [h]
theorem ok_comp {s : Src} {f : Vl → M (Option Vl)} {Q : List Vl → Store → Prop} {E : EX} (I : List Vl → List Vl → Store → Prop)
    (hs : ∀ x r acc S, I (x :: r) acc S → s.ok S ∧ Ok (f x S) (fun o S' => match o with
      | none => I r acc S'
      | some y => acc.length < sizeLine ∧ I r (acc ++ [y]) S') E) (hd : ∀ acc S, I [] acc S → s.ok S ∧ Q acc S) : ∀ (xs acc : List Vl) (S : Store), I xs acc S → Ok (compGo s f xs acc S) Q E
  | [], acc, S, h => by
    rw [compGo_nil, ok_bnd, ok_guard]
    exact hd acc S h
  | x :: r, acc, S, h => by
    rw [compGo_cons, ok_bnd, ok_guard]
    obtain ⟨h1, h2⟩ := hs x r acc S h
    refine ⟨h1, ?_⟩
    rw [ok_bnd]
    refine h2.imp (fun o S' q => ?_) fun _ _ _ z => z
    cases o with
    | none => exact ok_comp I hs hd r acc S' q
    | some y =>
      show Ok ((if acc.length < sizeLine then compGo s f r (acc ++ [y]) else bad) S') Q E
      rw [if_pos q.1]
      exact ok_comp I hs hd r _ S' q.2
theorem ok_for {s : Src} {f : Vl → Rho → M Fl} {Q : Fl → Store → Prop} {E : EX} (I : List Vl → Rho → Store → Prop)
    (hs : ∀ x r ρ S, I (x :: r) ρ S → s.ok S ∧ Ok (f x ρ S) (fun o S' => match o with
      | .nx ρ' => I r ρ' S'
      | o => Q o S') E) (hd : ∀ ρ S, I [] ρ S → s.ok S ∧ Q (.nx ρ) S) : ∀ (xs : List Vl) (ρ : Rho) (S : Store), I xs ρ S → Ok (forGo s f xs ρ S) Q E
  | [], ρ, S, h => by
    rw [forGo_nil, ok_bnd, ok_guard]
    exact hd ρ S h
  | x :: r, ρ, S, h => by
    rw [forGo_cons, ok_bnd, ok_guard]
    obtain ⟨h1, h2⟩ := hs x r ρ S h
    refine ⟨h1, ?_⟩
    rw [ok_bnd]
    refine h2.imp (fun o S' q => ?_) fun _ _ _ z => z
    cases o with
    | nx ρ' => exact ok_for I hs hd r ρ' S' q
    | rt v => exact q
    | ex c fs ρ' => exact q
theorem ok_while {c : Rho → M Bool} {b : Rho → M Fl} {ρ : Rho} {S : Store} {Q : Fl → Store → Prop}
    (h : Ok (c ρ S) (fun k S1 => if k = true then Ok (b ρ S1) (fun o S2 => match o with
      | .nx ρ' => Ok (whileV c b ρ' S2) Q E0
      | o => Q o S2) E0 else Q (.nx ρ) S1) fun c fs S1 => Q (.ex c fs ρ) S1) : Ok (whileV c b ρ S) Q E0 := by
  have fin : ∀ {n : Nat} {r : Rs Fl}, whileN c b n ρ S = some r → Ok r Q E0 → Ok (whileV c b ρ S) Q E0 := fun {n r} e h => by rw [whileV_of e]; exact h
  cases ec : c ρ S with
  | ex k fs S1 =>
    rw [ec] at h
    exact fin (n := 1) (r := .ok (.ex k fs ρ) S1) (by rw [whileN_succ]; simp only [catch_, bnd, ec, Rs.bind]) h
  | bad => rw [ec] at h; exact h.elim
  | ok k S1 =>
    rw [ec] at h
    cases k with
    | false =>
      exact fin (n := 1) (r := .ok (.nx ρ) S1) (by rw [whileN_succ]; simp only [catch_, bnd, ec, Rs.bind, if_neg Bool.false_ne_true, pur]) h
    | true =>
      have h : Ok (b ρ S1) (fun o S2 => match o with
        | .nx ρ' => Ok (whileV c b ρ' S2) Q E0
        | o => Q o S2) E0 := h
      cases eb : b ρ S1 with
      | ex k fs S2 => rw [eb] at h; exact h.elim
      | bad => rw [eb] at h; exact h.elim
      | ok o S2 =>
        rw [eb] at h
        cases o with
        | nx ρ' =>
          have h : Ok (whileV c b ρ' S2) Q E0 := h
          by_cases hx : ∃ r, ∃ n, whileN c b n ρ' S2 = some r
          · obtain ⟨r, n, e⟩ := hx
            rw [whileV_of e] at h
            exact fin (n := n + 1) (r := r) (by rw [whileN_succ]; simp only [catch_, bnd, ec, Rs.bind, if_true, pur, eb, e]) h
          · unfold whileV at h
            rw [dif_neg hx] at h
            exact h.elim
        | rt v => exact fin (n := 1) (r := .ok (.rt v) S2) (by rw [whileN_succ]; simp only [catch_, bnd, ec, Rs.bind, if_true, pur, eb]) h
        | ex k fs ρ' => exact fin (n := 1) (r := .ok (.ex k fs ρ') S2) (by rw [whileN_succ]; simp only [catch_, bnd, ec, Rs.bind, if_true, pur, eb]) h
/-! ### the parts, for the simplifier -/
section
variable {P : Pg} {ρ : Rho} {α : Type} {S : Store}
@[simp] theorem ok_ite {c : Prop} [Decidable c] {a b : Rs α} {Q : α → Store → Prop} {E : EX} : Ok (if c then a else b) Q E ↔ (c → Ok a Q E) ∧ (¬c → Ok b Q E) := by
  by_cases h : c
  · simp [h]
  · simp [h]
@[simp] theorem ev_var {i : Nat} : evE P (.var i) ρ = match ρ[i]? with
    | some (some v) => pur v
    | _ => bad := rfl
@[simp] theorem ev_cst {x : PyData} : evE P (.cst x) ρ = pur (.d x) := rfl
@[simp] theorem ev_glob {g : Str} : evE P (.glob g) ρ = match P.glob g with
    | some x => pur (.d x)
    | none => bad := rfl
@[simp] theorem ev_tup {es : Es} : evE P (.tup es) ρ = bnd (evEs P es ρ) newT := rfl
@[simp] theorem ev_lst {m : Bool} {es : Es} : evE P (.lst m es) ρ = bnd (evEs P es ρ) (newL m) := rfl
@[simp] theorem ev_bin {o : Bop} {a b : E} : evE P (.bin o a b) ρ = bnd (evE P a ρ) fun x => bnd (evE P b ρ) fun y => binV o x y := rfl
@[simp] theorem ev_neg {a : E} : evE P (.neg a) ρ = bnd (evE P a ρ) fun x => match x with
    | .d (.int i) => pur (.d (.int (-i)))
    | _ => bad := rfl
@[simp] theorem ev_cmp {o : Cop} {a b : E} : evE P (.cmp o a b) ρ = bnd (evE P a ρ) fun x => bnd (evE P b ρ) fun y => cmpV o x y := rfl
@[simp] theorem ev_chain {o p : Cop} {a b c : E} : evE P (.chain o p a b c) ρ = bnd (evE P a ρ) fun x => bnd (evE P b ρ) fun y => bnd (bnd (cmpV o x y) toB) fun k =>
      if k = true then bnd (evE P c ρ) fun z => cmpV p y z else pur (.d (.bool false)) := rfl
@[simp] theorem ev_band {a b : E} : evE P (.band a b) ρ = bnd (bnd (evE P a ρ) toB) fun k => if k = true then evE P b ρ else pur (.d (.bool false)) := rfl
@[simp] theorem ev_bor {a b : E} : evE P (.bor a b) ρ = bnd (bnd (evE P a ρ) toB) fun k => if k = true then pur (.d (.bool true)) else evE P b ρ := rfl
@[simp] theorem ev_bnot {a : E} : evE P (.bnot a) ρ = bnd (bnd (evE P a ρ) toB) fun k => pur (.d (.bool (!k))) := rfl
@[simp] theorem ev_ife {c a b : E} : evE P (.ife c a b) ρ = bnd (bnd (evE P c ρ) toB) fun k => if k = true then evE P a ρ else evE P b ρ := rfl
@[simp] theorem ev_ix {a i : E} : evE P (.ix a i) ρ = bnd (evE P a ρ) fun x => bnd (evE P i ρ) fun y => ixV x y := rfl
@[simp] theorem ev_sl {m : Bool} {a : E} {lo hi : Eo} : evE P (.sl m a lo hi) ρ = bnd (evE P a ρ) fun x => bnd (evEo P lo ρ) fun l => bnd (evEo P hi ρ) fun h => slV m x l h := rfl
@[simp] theorem ev_comp0 {m : Bool} {own : List (Str × Nat)} {tg : Tg} {it : It} {e : E} : evE P (.comp m own tg it .no e) ρ = bnd (evIt P it ρ) fun s => bnd (noEx (compGo s (compF (own.map (·.2)) tg none (evE P e) ρ) s.xs [])) (newL m) := rfl
@[simp] theorem ev_comp1 {m : Bool} {own : List (Str × Nat)} {tg : Tg} {it : It} {c e : E} : evE P (.comp m own tg it (.yes c) e) ρ = bnd (evIt P it ρ) fun s => bnd (noEx (compGo s (compF (own.map (·.2)) tg (some fun ρ1 => bnd (evE P c ρ1) toB) (evE P e) ρ) s.xs [])) (newL m) := rfl
@[simp] theorem ev_call {p : Bool} {f : Str} {es : Es} : evE P (.call p f es) ρ = bnd (evEs P es ρ) (callP P p f) := rfl
@[simp] theorem ev_bi {b : Bi} {es : Es} : evE P (.bi b es) ρ = bnd (evEs P es ρ) (biV b) := rfl
@[simp] theorem ev_mt {m : Mt} {o : E} {es : Es} : evE P (.mt m o es) ρ = bnd (evE P o ρ) fun x => fun S => if isTy S m.ty x = true then bnd (evEs P es ρ) (mtV m x) S else .bad := rfl
@[simp] theorem ev_isi {a : E} {T : String} : evE P (.isi a T) ρ = bnd (evE P a ρ) fun x => isiV x T := rfl
@[simp] theorem ev_disp {ks : List Str} {es : Es} : evE P (.disp ks es) ρ S = bnd (evEs P es ρ) (dispSet S.length ks) (S ++ [.dk []]) := rfl
@[simp] theorem ev_dnew : evE P .dnew ρ S = .ok (.loc S.length) (S ++ [.dk []]) := rfl
@[simp] theorem ev_lrng1 {m : Bool} {a : E} : evE P (.lrng1 m a) ρ = bnd (evE P a ρ) fun x => match x with
    | .d (.int i) => lrngV m 0 i
    | _ => bad := rfl
@[simp] theorem ev_lrng2 {m : Bool} {a b : E} : evE P (.lrng2 m a b) ρ = bnd (evE P a ρ) fun x => bnd (evE P b ρ) fun y => match x, y with
    | .d (.int i), .d (.int j) => lrngV m i j
    | _, _ => bad := rfl
@[simp] theorem ev_srtset {m : Bool} {a : E} : evE P (.srtset m a) ρ = bnd (evE P a ρ) (srtsetV m) := rfl
@[simp] theorem ev_lenset {a : E} : evE P (.lenset a) ρ = bnd (evE P a ρ) lensetV := rfl
@[simp] theorem ev_revT {a : E} : evE P (.revT a) ρ = bnd (evE P a ρ) revTV := rfl
@[simp] theorem revT_tup {xs : List PyData} : revTV (.d (.tuple xs)) = pur (.d (.tuple xs.reverse)) := rfl
@[simp] theorem st_nev : evS P .nev ρ = bad := rfl
@[simp] theorem ev_lrev {m : Bool} {a : E} : evE P (.lrev m a) ρ = bnd (evE P a ρ) (revL m) := rfl
@[simp] theorem ev_frz {a : E} : evE P (.frz a) ρ = bnd (evE P a ρ) frzV := rfl
@[simp] theorem ev_dnewT : evE P .dnewT ρ S = .ok (.loc S.length) (S ++ [.dd S.length []]) := rfl
@[simp] theorem ev_disp1 {k v : E} : evE P (.disp1 k v) ρ S = bnd (bnd (evE P k ρ) fun x => bnd (evE P v ρ) fun y => disp1V S.length x y) pur (S ++ [.dd S.length []]) := rfl
@[simp] theorem ev_zipT {a b : E} : evE P (.zipT a b) ρ = bnd (evE P a ρ) fun x => bnd (evE P b ρ) fun y => zipTV x y := rfl
@[simp] theorem ev_fld {c : Str} {o : E} {f : Str} : evE P (.fld c o f) ρ = bnd (evE P o ρ) (fldV c f) := rfl
@[simp] theorem ev_meth {c : Str} {o : E} {m : Str} {es : Es} : evE P (.meth c o m es) ρ = bnd (evE P o ρ) fun x => fun S => if insOk c m x S = true then bnd (evEs P es ρ) (methV P c m x) S else .bad := rfl
@[simp] theorem ev_new {c : Str} {es : Es} : evE P (.new c es) ρ = bnd (evEs P es ρ) (newV P c) := rfl
@[simp] theorem ev_nil : evEs P .nil ρ = pur [] := rfl
@[simp] theorem ev_cons {e : E} {r : Es} : evEs P (.cons e r) ρ = bnd (evE P e ρ) fun x => bnd (evEs P r ρ) fun xs => pur (x :: xs) := rfl
@[simp] theorem ev_no : evEo P .no ρ = pur none := rfl
@[simp] theorem ev_yes {e : E} : evEo P (.yes e) ρ = bnd (evE P e ρ) partI := rfl
@[simp] theorem ev_val {e : E} : evIt P (.val e) ρ = bnd (evE P e ρ) srcV := rfl
@[simp] theorem ev_rng1 {a : E} : evIt P (.rng1 a) ρ = bnd (evE P a ρ) fun x => match x with
    | .d (.int i) => rngV 0 i
    | _ => bad := rfl
@[simp] theorem ev_rng2 {a b : E} : evIt P (.rng2 a b) ρ = bnd (evE P a ρ) fun x => bnd (evE P b ρ) fun y => match x, y with
    | .d (.int i), .d (.int j) => rngV i j
    | _, _ => bad := rfl
@[simp] theorem ev_rng3 {a b c : E} : evIt P (.rng3 a b c) ρ = bnd (evE P a ρ) fun x => bnd (evE P b ρ) fun y => bnd (evE P c ρ) fun z => match x, y, z with
    | .d (.int i), .d (.int j), .d (.int k) => rngD i j k
    | _, _, _ => bad := rfl
@[simp] theorem ev_enum {e : E} : evIt P (.enum e) ρ = bnd (evE P e ρ) enumV := rfl
@[simp] theorem ev_rev {e : E} : evIt P (.rev e) ρ = bnd (evE P e ρ) revV := rfl
@[simp] theorem ta_tg {t : Tg} {v : Vl} : evTa P (.tg t) v ρ = ofO ((setTg t v ρ).map .nx) := rfl
@[simp] theorem ta_sub {o i : E} {v : Vl} : evTa P (.sub o i) v ρ = bnd (evE P o ρ) fun x => bnd (evE P i ρ) fun y => bnd (setSub x y v) fun _ => pur (.nx ρ) := rfl
@[simp] theorem ta_fld {c : Str} {o : E} {f : Str} {v : Vl} : evTa P (.fld c o f) v ρ = bnd (evE P o ρ) fun x => bnd (setFld c x f v) fun _ => pur (.nx ρ) := rfl
@[simp] theorem st_asg {t : Ta} {e : E} : evS P (.asg t e) ρ = catch_ ρ (bnd (evE P e ρ) fun v => evTa P t v ρ) := rfl
@[simp] theorem st_par {is : List Nat} {es : Es} : evS P (.par is es) ρ = catch_ ρ (bnd (evEs P es ρ) fun vs => ofO ((setAll is vs ρ).map .nx)) := rfl
@[simp] theorem st_expr {e : E} : evS P (.expr e) ρ = catch_ ρ (bnd (evE P e ρ) fun _ => pur (.nx ρ)) := rfl
@[simp] theorem st_ret {e : E} : evS P (.ret e) ρ = catch_ ρ (bnd (evE P e ρ) fun v => pur (.rt v)) := rfl
@[simp] theorem st_retN : evS P .retN ρ = pur (.rt (.d .none)) := rfl
@[simp] theorem st_gh {i : Nat} : evS P (.gh i) ρ = match ρ[i]? with
    | some (some v) => bnd (frzV v) fun x => pur (.nx (ρ.set i (some x)))
    | _ => bad := rfl
@[simp] theorem ok_ife {c : E} {a b : Sts} {Q : Fl → Store → Prop} {E : EX} : Ok (evS P (.ife c a b) ρ S) Q E ↔ Ok (bnd (evE P c ρ) toB S) (fun k S' => if k = true then Ok (evSs P a ρ S') Q E else Ok (evSs P b ρ S') Q E) (fun c fs S' => Q (.ex c fs ρ) S') := by
  show Ok (bnd (catch_ ρ (bnd (bnd (evE P c ρ) toB) fun k => if k = true then pur (.nx ρ) else pur (.rt (.d .none)))) (fun o => match o with
    | .nx _ => evSs P a ρ
    | .rt _ => evSs P b ρ
    | o => pur o) S) Q E ↔ _
  rw [ok_bnd, ok_catch]
  unfold bnd
  cases h : (evE P c ρ S).bind toB with
  | ok k S' =>
    cases k with
    | true => simp [Rs.bind]
    | false => simp [Rs.bind]
  | ex c fs S' => simp [Rs.bind]
  | bad => simp [Rs.bind]
/-- a turn of a loop -/
noncomputable def frB (P : Pg) (t : Tg) (b : Sts) : Vl → Rho → M Fl := fun x ρ => match setTg t x ρ with
  | none => bad
  | some ρ1 => evSs P b ρ1
@[simp] theorem ok_fr {t : Tg} {it : It} {b : Sts} {Q : Fl → Store → Prop} {E : EX} : Ok (evS P (.fr t it b) ρ S) Q E ↔ Ok (evIt P it ρ S) (fun s S1 => Ok (forGo s (frB P t b) s.xs ρ S1) Q E) (fun c fs S' => Q (.ex c fs ρ) S') := by
  show Ok (match evIt P it ρ S with
    | .ok s S1 => forGo s (frB P t b) s.xs ρ S1
    | .ex c fs S1 => .ok (.ex c fs ρ) S1
    | .bad => .bad) Q E ↔ _
  cases evIt P it ρ S <;> rfl
@[simp] theorem ok_frB {t : Tg} {b : Sts} {x : Vl} {Q : Fl → Store → Prop} {E : EX} : Ok (frB P t b x ρ S) Q E ↔ ∃ ρ1, setTg t x ρ = some ρ1 ∧ Ok (evSs P b ρ1 S) Q E := by
  unfold frB
  cases setTg t x ρ with
  | none => simp
  | some ρ1 => simp
@[simp] theorem ok_compF0 {vs : List Nat} {t : Tg} {el : Rho → M Vl} {x : Vl} {Q : Option Vl → Store → Prop} {E : EX} : Ok (compF vs t none el ρ x S) Q E ↔ ∃ ρ1, setTg t x (wipeR ρ vs) = some ρ1 ∧ Ok (el ρ1 S) (fun y S' => Q (some y) S') E := by
  unfold compF
  cases setTg t x (wipeR ρ vs) with
  | none => simp
  | some ρ1 => simp
@[simp] theorem ok_compF1 {vs : List Nat} {t : Tg} {c : Rho → M Bool} {el : Rho → M Vl} {x : Vl} {Q : Option Vl → Store → Prop} {E : EX} : Ok (compF vs t (some c) el ρ x S) Q E ↔ ∃ ρ1, setTg t x (wipeR ρ vs) = some ρ1 ∧ Ok (c ρ1 S) (fun k S1 => if k = true then Ok (el ρ1 S1) (fun y S' => Q (some y) S') E else Q none S1) E := by
  unfold compF
  cases setTg t x (wipeR ρ vs) with
  | none => simp
  | some ρ1 =>
    simp only [ok_bnd, Option.some.injEq, exists_eq_left']
    cases c ρ1 S with
    | ok k S1 => cases k <;> simp
    | _ => rfl
@[simp] theorem ss_nil : evSs P .nil ρ = pur (.nx ρ) := rfl
@[simp] theorem ok_ss {s : St} {r : Sts} {Q : Fl → Store → Prop} {E : EX} : Ok (evSs P (.cons s r) ρ S) Q E ↔ Ok (evS P s ρ S) (fun o S' => match o with
    | .nx ρ' => Ok (evSs P r ρ' S') Q E
    | o => Q o S') E := by
  show Ok (bnd (evS P s ρ) (fun o => match o with
    | .nx ρ' => evSs P r ρ'
    | o => pur o) S) Q E ↔ _
  rw [ok_bnd]
  cases evS P s ρ S with
  | ok a S' => cases a <;> rfl
  | _ => rfl
theorem ok_whl {c : E} {b : Sts} {Q : Fl → Store → Prop} (h : Ok (bnd (evE P c ρ) toB S) (fun k S1 => if k = true then Ok (evSs P b ρ S1) (fun o S2 => match o with
      | .nx ρ' => Ok (evS P (.whl c b) ρ' S2) Q E0
      | o => Q o S2) E0 else Q (.nx ρ) S1) fun c fs S1 => Q (.ex c fs ρ) S1) : Ok (evS P (.whl c b) ρ S) Q E0 := ok_while h
@[simp] theorem tg_nm {i : Nat} {v : Vl} : setTg (.nm i) v ρ = if i < ρ.length then some (ρ.set i (some v)) else none := rfl
@[simp] theorem tg_tp {ts : Tgs} {xs : List PyData} : setTg (.tp ts) (.d (.tuple xs)) ρ = setTgs ts xs ρ := rfl
@[simp] theorem tgs_nil : setTgs .nil [] ρ = some ρ := rfl
@[simp] theorem tgs_cons {t : Tg} {r : Tgs} {x : PyData} {xs : List PyData} : setTgs (.cons t r) (x :: xs) ρ = (setTg t (.d x) ρ).bind (setTgs r xs) := rfl
/-! values -/
@[simp] theorem toB_eq {b : Bool} : toB (.d (.bool b)) S = .ok b S := rfl
@[simp] theorem part_eq {i : Int} : partI (.d (.int i)) S = .ok (some i) S := rfl
@[simp] theorem cmp_lt {i j : Int} : cmpV .lt (.d (.int i)) (.d (.int j)) S = .ok (.d (.bool (decide (i < j)))) S := rfl
@[simp] theorem cmp_le {i j : Int} : cmpV .le (.d (.int i)) (.d (.int j)) S = .ok (.d (.bool (decide (i ≤ j)))) S := rfl
@[simp] theorem cmp_gt {i j : Int} : cmpV .gt (.d (.int i)) (.d (.int j)) S = .ok (.d (.bool (decide (j < i)))) S := rfl
@[simp] theorem cmp_ge {i j : Int} : cmpV .ge (.d (.int i)) (.d (.int j)) S = .ok (.d (.bool (decide (j ≤ i)))) S := rfl
@[simp] theorem cmp_eqi {i j : Int} : cmpV .eq (.d (.int i)) (.d (.int j)) S = .ok (.d (.bool (i == j))) S := by simp [cmpV, cmpO, asD, cmpD, near, PyData.depth, PyData.eqv, ofO, pur]
@[simp] theorem cmp_nei {i j : Int} : cmpV .ne (.d (.int i)) (.d (.int j)) S = .ok (.d (.bool (!(i == j)))) S := by simp [cmpV, cmpO, asD, cmpD, near, PyData.depth, PyData.eqv, ofO, pur]
@[simp] theorem cmp_eqs {i j : Str} : cmpV .eq (.d (.str i)) (.d (.str j)) S = .ok (.d (.bool (i == j))) S := by simp [cmpV, cmpO, asD, cmpD, near, PyData.depth, PyData.eqv, ofO, pur]
@[simp] theorem cmp_nes {i j : Str} : cmpV .ne (.d (.str i)) (.d (.str j)) S = .ok (.d (.bool (!(i == j)))) S := by simp [cmpV, cmpO, asD, cmpD, near, PyData.depth, PyData.eqv, ofO, pur]
@[simp] theorem cmp_eqb {i j : Bool} : cmpV .eq (.d (.bool i)) (.d (.bool j)) S = .ok (.d (.bool (i == j))) S := by simp [cmpV, cmpO, asD, cmpD, near, PyData.depth, PyData.eqv, ofO, pur]
@[simp] theorem cmp_neb {i j : Bool} : cmpV .ne (.d (.bool i)) (.d (.bool j)) S = .ok (.d (.bool (!(i == j)))) S := by simp [cmpV, cmpO, asD, cmpD, near, PyData.depth, PyData.eqv, ofO, pur]
theorem cmp_eqd {a b : PyData} (h : near a b = true) : cmpV .eq (.d a) (.d b) S = .ok (.d (.bool (PyData.eqv a b))) S := by simp [cmpV, cmpO, asD, cmpD, h, ofO, pur]
theorem cmp_ned {a b : PyData} (h : near a b = true) : cmpV .ne (.d a) (.d b) S = .ok (.d (.bool (!PyData.eqv a b))) S := by simp [cmpV, cmpO, asD, cmpD, h, ofO, pur]
@[simp] theorem cmp_inSS {i j : Str} : cmpV .isin (.d (.str i)) (.d (.str j)) S = .ok (.d (.bool (strIn i j))) S := rfl
theorem cmp_inT {a : PyData} {xs : List PyData} (h : a.depth ≤ 64) : cmpV .isin (.d a) (.d (.tuple xs)) S = .ok (.d (.bool (xs.any fun z => PyData.eqv z a))) S := by
  cases a <;> simp [cmpV, cmpO, asD, cmpD, seqOf, ofO, pur] <;> simp [h]
theorem cmp_inL {a : PyData} {xs : List PyData} (h : a.depth ≤ 64) : cmpV .isin (.d a) (.d (.list xs)) S = .ok (.d (.bool (xs.any fun z => PyData.eqv z a))) S := by
  cases a <;> simp [cmpV, cmpO, asD, cmpD, seqOf, ofO, pur] <;> simp [h]
theorem cmp_niT {a : PyData} {xs : List PyData} (h : a.depth ≤ 64) : cmpV .notin (.d a) (.d (.tuple xs)) S = .ok (.d (.bool (!xs.any fun z => PyData.eqv z a))) S := by
  cases a <;> simp [cmpV, cmpO, asD, cmpD, seqOf, ofO, pur] <;> simp [h]
theorem cmp_niL {a : PyData} {xs : List PyData} (h : a.depth ≤ 64) : cmpV .notin (.d a) (.d (.list xs)) S = .ok (.d (.bool (!xs.any fun z => PyData.eqv z a))) S := by
  cases a <;> simp [cmpV, cmpO, asD, cmpD, seqOf, ofO, pur] <;> simp [h]
@[simp] theorem bin_addi {m : Bool} {i j : Int} : binV (.add m) (.d (.int i)) (.d (.int j)) S = .ok (.d (.int (i + j))) S := rfl
@[simp] theorem bin_sub {i j : Int} : binV .sub (.d (.int i)) (.d (.int j)) S = .ok (.d (.int (i - j))) S := rfl
@[simp] theorem bin_mul {i j : Int} : binV .mul (.d (.int i)) (.d (.int j)) S = if (-(2 ^ 64) < i ∧ i < 2 ^ 64) ∨ (-(2 ^ 64) < j ∧ j < 2 ^ 64) then .ok (.d (.int (i * j))) S else .bad := by
  show ofO ((if (-(2 ^ 64) < i ∧ i < 2 ^ 64) ∨ (-(2 ^ 64) < j ∧ j < 2 ^ 64) then some (PyData.int (i * j)) else none).map Vl.d) S = _
  split <;> rfl
@[simp] theorem bin_fdiv {i j : Int} : binV .fdiv (.d (.int i)) (.d (.int j)) S = if 0 < j ∧ j < 1073741824 then .ok (.d (.int (i / j))) S else .bad := by
  show ofO ((if 0 < j ∧ j < 1073741824 then some (PyData.int (i / j)) else none).map Vl.d) S = _
  split <;> rfl
@[simp] theorem bin_mod {i j : Int} : binV .mod (.d (.int i)) (.d (.int j)) S = if 0 < j then .ok (.d (.int (i % j))) S else .bad := by
  show ofO ((if 0 < j then some (PyData.int (i % j)) else none).map Vl.d) S = _
  split <;> rfl
@[simp] theorem bin_pow {i j : Int} : binV .pow (.d (.int i)) (.d (.int j)) S = if 0 ≤ j ∧ j ≤ 1000000 ∧ i.natAbs < 2 ^ 64 then .ok (.d (.int (i ^ j.toNat))) S else .bad := by
  show ofO ((if 0 ≤ j ∧ j ≤ 1000000 ∧ i.natAbs < 2 ^ 64 then some (PyData.int (i ^ j.toNat)) else none).map Vl.d) S = _
  split <;> rfl
@[simp] theorem bin_adds {m : Bool} {i j : Str} : binV (.add m) (.d (.str i)) (.d (.str j)) S = if i.length + j.length ≤ sizeLine then .ok (.d (.str (i ++ j))) S else .bad := by
  show ofO ((if i.length + j.length ≤ sizeLine then some (PyData.str (i ++ j)) else none).map Vl.d) S = _
  split <;> rfl
@[simp] theorem bin_addt {m : Bool} {i j : List PyData} : binV (.add m) (.d (.tuple i)) (.d (.tuple j)) S = if i.length + j.length ≤ sizeLine then .ok (.d (.tuple (i ++ j))) S else .bad := by
  show ofO ((if i.length + j.length ≤ sizeLine then some (PyData.tuple (i ++ j)) else none).map Vl.d) S = _
  split <;> rfl
@[simp] theorem pds_cons {x : PyData} {xs : List Vl} : pds (.d x :: xs) = (pds xs).map (x :: ·) := rfl
@[simp] theorem pds_nil : pds [] = some [] := rfl
theorem newL_d {m : Bool} {xs : List PyData} (hm : m = false) (h : xs.length ≤ sizeLine) : newL m (xs.map .d) S = .ok (.d (.list xs)) S := by
  subst hm
  unfold newL
  rw [if_pos (by rw [List.length_map]; exact h), if_neg Bool.false_ne_true, pds_map]
theorem newT_d {xs : List PyData} (h : xs.length ≤ sizeLine) : newT (xs.map .d) S = .ok (.d (.tuple xs)) S := by
  unfold newT
  rw [if_pos (by rw [List.length_map]; exact h), pds_map]
@[simp] theorem isi_eq {x : PyData} {T : String} : isiV (.d x) T S = .ok (.d (.bool (tyD x == T || (tyD x == "bool" && T == "int")))) S := rfl
theorem isi_loc {n : Nat} {xs : List Vl} {T : String} (h : S[n]? = some (.lst xs)) : isiV (.loc n) T S = .ok (.d (.bool (tyD (.list []) == T || (tyD (.list []) == "bool" && T == "int")))) S := by
  simp only [isiV, h]
end
end DL

namespace DL
open PySem PySem.Spec PyProof.Rows L2
/-! ### lists made, lists walked -/
section
variable {S : Store} {E : EX}
theorem ok_eq {α : Type} {r : Rs α} {b : α} {T : Store} : Ok r (fun a S' => a = b ∧ S' = T) E0 ↔ r = .ok b T := by
  cases r with
  | ok a S' => simp
  | ex c fs S' => simp
  | bad => simp
@[simp] theorem newL_f {xs : List PyData} : newL false (xs.map .d) S = if xs.length ≤ sizeLine then .ok (.d (.list xs)) S else .bad := by
  unfold newL
  rw [List.length_map, if_neg Bool.false_ne_true, pds_map]
@[simp] theorem newL_t {xs : List Vl} : newL true xs S = if xs.length ≤ sizeLine then .ok (.loc S.length) (S ++ [.lst xs]) else .bad := by
  unfold newL
  rw [if_pos rfl]
@[simp] theorem newT_m {xs : List PyData} : newT (xs.map .d) S = if xs.length ≤ sizeLine then .ok (.d (.tuple xs)) S else .bad := by
  unfold newT
  rw [List.length_map, pds_map]
@[simp] theorem src_list {xs : List PyData} : srcV (.d (.list xs)) S = .ok ⟨xs.map .d, none⟩ S := rfl
@[simp] theorem src_tup {xs : List PyData} : srcV (.d (.tuple xs)) S = .ok ⟨xs.map .d, none⟩ S := rfl
@[simp] theorem src_str {z : Str} : srcV (.d (.str z)) S = .ok ⟨bits z, none⟩ S := rfl
@[simp] theorem sl_scr {m : Bool} {zs : List Int} {lo hi : Option Int} : slV m (.scr zs) lo hi S = newL m (((cutL zs lo hi).map PyData.int).map .d) S := by
  show newL m (cutL ((zs.map PyData.int).map Vl.d) lo hi) S = _
  rw [cutL_map, cutL_map]
@[simp] theorem sl_list {m : Bool} {xs : List PyData} {lo hi : Option Int} : slV m (.d (.list xs)) lo hi S = newL m ((cutL xs lo hi).map .d) S := by
  show newL m (cutL (xs.map Vl.d) lo hi) S = _
  rw [cutL_map]
@[simp] theorem sl_tup {m : Bool} {xs : List PyData} {lo hi : Option Int} : slV m (.d (.tuple xs)) lo hi S = .ok (.d (.tuple (cutL xs lo hi))) S := rfl
@[simp] theorem sl_str {m : Bool} {z : Str} {lo hi : Option Int} : slV m (.d (.str z)) lo hi S = if z.length ≤ sizeLine then .ok (.d (.str (cutS z lo hi))) S else .bad := rfl
theorem cutL_len {α : Type} (xs : List α) (lo hi : Option Int) : (cutL xs lo hi).length ≤ xs.length := by
  unfold cutL
  rw [List.length_take, List.length_drop]
  omega
theorem cutL_mem {α : Type} {xs : List α} {lo hi : Option Int} {x : α} (h : x ∈ cutL xs lo hi) : x ∈ xs := List.mem_of_mem_drop (List.mem_of_mem_take h)
@[simp] theorem rev_list {m : Bool} {xs : List PyData} : revL m (.d (.list xs)) S = newL m (xs.map .d).reverse S := rfl
@[simp] theorem bi_len_list {xs : List PyData} : biV .len [.d (.list xs)] S = .ok (.d (.int xs.length)) S := rfl
@[simp] theorem bi_len_tup {xs : List PyData} : biV .len [.d (.tuple xs)] S = .ok (.d (.int xs.length)) S := rfl
@[simp] theorem bi_len_scr {xs : List Int} : biV .len [.scr xs] S = .ok (.d (.int xs.length)) S := rfl
@[simp] theorem bi_len_str {z : Str} : biV .len [.d (.str z)] S = if z.length ≤ sizeLine then .ok (.d (.int z.length)) S else .bad := by
  show ofO (Option.map (fun n => Vl.d (.int n)) (if z.length ≤ sizeLine then some (z.length : Int) else none)) S = _
  split <;> rfl
@[simp] theorem bi_max2 {i j : Int} : biV .max2 [.d (.int i), .d (.int j)] S = .ok (.d (.int (if j > i then j else i))) S := rfl
@[simp] theorem bi_min2 {i j : Int} : biV .min2 [.d (.int i), .d (.int j)] S = .ok (.d (.int (if j < i then j else i))) S := rfl
@[simp] theorem bi_int {i : Int} : biV .int [.d (.int i)] S = .ok (.d (.int i)) S := rfl
@[simp] theorem bi_intb {b : Bool} : biV .int [.d (.bool b)] S = .ok (.d (.int (if b then 1 else 0))) S := rfl
@[simp] theorem bi_ord {z : Str} : biV .ord [.d (.str z)] S = if z.length = 1 then .ok (.d (.int (z.cps.getD 0 0 : Nat))) S else .bad := rfl
@[simp] theorem bi_tupL {xs : List PyData} : biV .tuple [.d (.list xs)] S = .ok (.d (.tuple xs)) S := by
  show ofO (Option.map (fun ds => Vl.d (.tuple ds)) (pds (xs.map .d))) S = _
  rw [pds_map]; rfl
@[simp] theorem bi_tupT {xs : List PyData} : biV .tuple [.d (.tuple xs)] S = .ok (.d (.tuple xs)) S := rfl
@[simp] theorem bi_listL {m : Bool} {xs : List PyData} : biV (.list m) [.d (.list xs)] S = newL m (xs.map .d) S := rfl
@[simp] theorem bi_listT {m : Bool} {xs : List PyData} : biV (.list m) [.d (.tuple xs)] S = newL m (xs.map .d) S := rfl
theorem dBls_b {bs : List Bool} : dBls (bs.map .bool) = some bs := by
  induction bs with
  | nil => rfl
  | cons b bs ih => simp only [List.map_cons, dBls, ih]; rfl
@[simp] theorem bi_all {bs : List Bool} : biV .all [.d (.list (bs.map .bool))] S = .ok (.d (.bool (bs.all id))) S := by
  show (match (pds ((bs.map PyData.bool).map .d)) with
    | some ds => ofO ((dBls ds).map fun (bs : List Bool) => Vl.d (.bool (bs.all id))) S
    | none => .bad) = _
  rw [pds_map]
  simp [ofO, pur, dBls_b]
@[simp] theorem bi_any {bs : List Bool} : biV .any [.d (.list (bs.map .bool))] S = .ok (.d (.bool (bs.any id))) S := by
  show (match (pds ((bs.map PyData.bool).map .d)) with
    | some ds => ofO ((dBls ds).map fun (bs : List Bool) => Vl.d (.bool (bs.any id))) S
    | none => .bad) = _
  rw [pds_map]
  simp [ofO, pur, dBls_b]
@[simp] theorem ix_list_d {xs : List PyData} {k : Int} : ixV (.d (.list xs)) (.d (.int k)) S = ofO ((atI xs k).map .d) S := rfl
@[simp] theorem ix_tup_d {xs : List PyData} {k : Int} : ixV (.d (.tuple xs)) (.d (.int k)) S = ofO ((atI xs k).map .d) S := rfl
@[simp] theorem ix_str_d {z : Str} {k : Int} : ixV (.d (.str z)) (.d (.int k)) S = if z.length ≤ sizeLine then ofO ((atI z.cps.toList k).map fun c => .d (.str ⟨#[c]⟩)) S else .bad := rfl
@[simp] theorem bin_addl {xs ys : List PyData} {m : Bool} : binV (.add m) (.d (.list xs)) (.d (.list ys)) S = newL m ((xs ++ ys).map .d) S := by
  show newL m (xs.map .d ++ ys.map .d) S = _
  rw [List.map_append]
/-- a list made, what each part keeps -/
theorem comp_each {xs : List Vl} {f : Vl → M (Option Vl)} {J : Store → Prop} {p : PyData → Prop} {Q : List Vl → Store → Prop} (hl : xs.length < sizeLine)
    (hs : ∀ x ∈ xs, ∀ S, J S → Ok (f x S) (fun o S' => J S' ∧ ∀ y, o = some y → ∃ d, y = .d d ∧ p d) E) (hJ : J S) (hq : ∀ (ds : List PyData) S', (∀ d ∈ ds, p d) → ds.length ≤ xs.length → J S' → Q (ds.map .d) S') : Ok (compGo ⟨xs, none⟩ f xs [] S) Q E := by
  refine ok_comp (I := fun r acc S => J S ∧ (∀ x ∈ r, x ∈ xs) ∧ acc.length + r.length ≤ xs.length ∧ ∃ ds : List PyData, acc = ds.map .d ∧ ∀ d ∈ ds, p d) (fun x r acc S h => ?_) (fun acc S h => ?_) xs [] S ⟨hJ, fun _ h => h, by simp, [], rfl, fun _ h => by cases h⟩
  · obtain ⟨h1, h2, h3, ds, rfl, h5⟩ := h
    refine ⟨trivial, (hs x (h2 x (by simp)) S h1).imp (fun o S' q => ?_) fun _ _ _ z => z⟩
    have h6 : ∀ y ∈ r, y ∈ xs := fun y hy => h2 y (by simp [hy])
    simp only [List.length_cons, List.length_map] at h3
    cases o with
    | none => exact ⟨q.1, h6, by rw [List.length_map]; omega, ds, rfl, h5⟩
    | some y =>
      obtain ⟨d, rfl, hd⟩ := q.2 y rfl
      refine ⟨by rw [List.length_map]; omega, q.1, h6, by rw [List.length_append, List.length_map]; simp; omega, ds ++ [d], by simp, fun e he => ?_⟩
      rcases List.mem_append.mp he with he | he
      · exact h5 e he
      · rw [List.mem_singleton.mp he]; exact hd
  · obtain ⟨h1, h2, h3, ds, rfl, h5⟩ := h
    exact ⟨trivial, hq ds S h5 (by simpa using h3) h1⟩
/-- the same, nothing left out -/
theorem comp_full {xs : List Vl} {f : Vl → M (Option Vl)} {J : Store → Prop} {p : PyData → Prop} {Q : List Vl → Store → Prop} (hl : xs.length < sizeLine)
    (hs : ∀ x ∈ xs, ∀ S, J S → Ok (f x S) (fun o S' => J S' ∧ ∃ d, o = some (.d d) ∧ p d) E) (hJ : J S) (hq : ∀ (ds : List PyData) S', (∀ d ∈ ds, p d) → ds.length = xs.length → J S' → Q (ds.map .d) S') : Ok (compGo ⟨xs, none⟩ f xs [] S) Q E := by
  refine ok_comp (I := fun r acc S => J S ∧ (∀ x ∈ r, x ∈ xs) ∧ acc.length + r.length = xs.length ∧ ∃ ds : List PyData, acc = ds.map .d ∧ ∀ d ∈ ds, p d) (fun x r acc S h => ?_) (fun acc S h => ?_) xs [] S ⟨hJ, fun _ h => h, by simp, [], rfl, fun _ h => by cases h⟩
  · obtain ⟨h1, h2, h3, ds, rfl, h5⟩ := h
    refine ⟨trivial, (hs x (h2 x (by simp)) S h1).imp (fun o S' q => ?_) fun _ _ _ z => z⟩
    have h6 : ∀ y ∈ r, y ∈ xs := fun y hy => h2 y (by simp [hy])
    simp only [List.length_cons, List.length_map] at h3
    obtain ⟨q1, d, rfl, hd⟩ := q
    refine ⟨by rw [List.length_map]; omega, q1, h6, by rw [List.length_append, List.length_map]; simp; omega, ds ++ [d], by simp, fun e he => ?_⟩
    rcases List.mem_append.mp he with he | he
    · exact h5 e he
    · rw [List.mem_singleton.mp he]; exact hd
  · obtain ⟨h1, h2, h3, ds, rfl, h5⟩ := h
    exact ⟨trivial, hq ds S h5 (by simpa using h3) h1⟩
/-- a list made of data alone -/
theorem comp_fm {α : Type} {ys : List α} {toD : α → Vl} {f : Vl → M (Option Vl)} {g : α → Option PyData} {Q : List Vl → Store → Prop} (hl : ys.length ≤ sizeLine)
    (hs : ∀ x ∈ ys, Ok (f (toD x) S) (fun o S' => o = (g x).map .d ∧ S' = S) E0) (hq : Q ((ys.filterMap g).map .d) S) : Ok (compGo ⟨ys.map toD, none⟩ f (ys.map toD) [] S) Q E := by
  suffices H : ∀ (r : List α) (acc : List Vl), (∀ x ∈ r, x ∈ ys) → acc.length + r.length ≤ sizeLine → compGo ⟨ys.map toD, none⟩ f (r.map toD) acc S = .ok (acc ++ (r.filterMap g).map .d) S by
    rw [H ys [] (fun _ h => h) (by simpa using hl)]
    exact hq
  intro r
  induction r with
  | nil => intro acc _ _; rw [List.map_nil, compGo_nil, bnd_okd guard0]; simp
  | cons x r ih =>
    intro acc h1 h2
    rw [List.map_cons, compGo_cons, bnd_okd guard0, bnd_okd (ok_eq.mp (hs x (h1 x (by simp))))]
    simp only [List.length_cons] at h2
    cases e : g x with
    | none =>
      rw [List.filterMap_cons, e]
      exact ih acc (fun y hy => h1 y (by simp [hy])) (by omega)
    | some d =>
      rw [List.filterMap_cons, e]
      show (if acc.length < sizeLine then compGo _ f (r.map toD) (acc ++ [.d d]) else bad) S = _
      rw [if_pos (by omega), ih _ (fun y hy => h1 y (by simp [hy])) (by simp; omega)]
      simp
theorem comp_map {α : Type} {ys : List α} {toD : α → Vl} {f : Vl → M (Option Vl)} {g : α → PyData} {Q : List Vl → Store → Prop} (hl : ys.length ≤ sizeLine)
    (hs : ∀ x ∈ ys, Ok (f (toD x) S) (fun o S' => o = some (.d (g x)) ∧ S' = S) E0) (hq : Q ((ys.map g).map .d) S) : Ok (compGo ⟨ys.map toD, none⟩ f (ys.map toD) [] S) Q E :=
  comp_fm (g := fun x => some (g x)) hl hs (by rw [List.filterMap_eq_map']; exact hq)
end
theorem typed {α : Type} {toD : α → PyData} {q : α → Prop} : ∀ {ds : List PyData}, (∀ d ∈ ds, ∃ i, d = toD i ∧ q i) → ∃ is : List α, ds = is.map toD ∧ ∀ i ∈ is, q i
  | [], _ => ⟨[], rfl, fun _ h => by cases h⟩
  | d :: ds, h => by
    obtain ⟨i, rfl, hi⟩ := h d (by simp)
    obtain ⟨is, rfl, his⟩ := typed (ds := ds) fun e he => h e (List.mem_cons_of_mem _ he)
    exact ⟨i :: is, rfl, fun j hj => by
      rcases List.mem_cons.mp hj with rfl | hj
      · exact hi
      · exact his j hj⟩
end DL

namespace DL
open PySem PySem.Spec PyProof.Rows L2
/-! ### the laws' own dice -/
def f_law_deal : Fd := ⟨["_law_script", "_law_base"], ["_law_script", "_law_base", "_law_cells", "_law_number", "_law_cell"],
 (.cons (.asg (.tg (.nm 2)) (.comp false [("_law_cell", 4)] (.nm 4) (.val (.sl false (.var 0) (.yes (.var 1)) (.yes (.cst (.int 63))))) .no (.bi .max2 (.cons (.var 4) (.cons (.bin .sub (.cst (.int 0)) (.var 4)) .nil)))))
 (.cons (.asg (.tg (.nm 3)) (.bin (.add false) (.cst (.int 7919)) (.var 1)))
 (.cons (.fr (.nm 4) (.val (.var 2))
 (.cons (.asg (.tg (.nm 3)) (.bin .mod (.bin (.add false) (.bin .mul (.var 3) (.cst (.int 48271))) (.bin .mod (.var 4) (.cst (.int 2147483629)))) (.cst (.int 2147483647))))
 .nil))
 (.cons (.ret (.disp ["seed", "number", "left"] (.cons (.var 3) (.cons (.cst (.int 0)) (.cons (.lrev true (.comp false [("_law_cell", 4)] (.nm 4) (.val (.var 2)) (.yes (.cmp .ge (.var 4) (.bin .pow (.cst (.int 10)) (.cst (.int 18))))) (.var 4))) .nil)))))
 .nil))))⟩

def f_law_draw : Fd := ⟨["_law_deal_here", "_law_many"], ["_law_deal_here", "_law_many", "_law_number", "_law_one", "_law_other"],
 (.cons (.whl (.band (.cmp .eq (.ix (.var 0) (.cst (.str "number"))) (.cst (.int 0))) (.cmp .gt (.bi .len (.cons (.ix (.var 0) (.cst (.str "left"))) .nil)) (.cst (.int 0))))
 (.cons (.asg (.sub (.var 0) (.cst (.str "number"))) (.mt .pop (.ix (.var 0) (.cst (.str "left"))) .nil))
 .nil))
 (.cons (.asg (.tg (.nm 2)) (.ix (.var 0) (.cst (.str "number"))))
 (.cons (.ife (.cmp .gt (.var 2) (.cst (.int 0)))
 (.cons (.asg (.sub (.var 0) (.cst (.str "number"))) (.bin .fdiv (.var 2) (.var 1)))
 (.cons (.ret (.bin .mod (.var 2) (.var 1)))
 .nil))
 .nil)
 (.cons (.asg (.tg (.nm 3)) (.bin .mod (.bin (.add false) (.bin .mul (.ix (.var 0) (.cst (.str "seed"))) (.cst (.int 48271))) (.cst (.int 7919))) (.cst (.int 2147483647))))
 (.cons (.asg (.sub (.var 0) (.cst (.str "seed"))) (.bin .mod (.bin (.add false) (.bin .mul (.var 3) (.cst (.int 40692))) (.cst (.int 104729))) (.cst (.int 2147483399))))
 (.cons (.asg (.tg (.nm 4)) (.bin .mod (.bin .mul (.ix (.var 0) (.cst (.str "seed"))) (.ix (.var 0) (.cst (.str "seed")))) (.cst (.int 2147483563))))
 (.cons (.ret (.bin .mod (.bin (.add false) (.bin .mul (.bin .mod (.bin .mul (.var 3) (.var 3)) (.cst (.int 2147483629))) (.cst (.int 2147483563))) (.var 4)) (.var 1)))
 .nil)))))))⟩


theorem disp_eq {n : Nat} {ks : List Str} {vs : List Vl} {S : Store} (e : S[n]? = some (.dk [])) (h1 : ks.length = vs.length) (h2 : ks.Nodup) : dispSet n ks vs S = .ok (.loc n) (S.set n (.dk ((ks.map Sum.inr).zip vs))) := by
  unfold dispSet
  rw [e]
  exact if_pos ⟨h1, h2⟩
def dealS (s x : Int) (ns : List Int) : Store := [.dk [(.inr "seed", .d (.int s)), (.inr "number", .d (.int x)), (.inr "left", .loc 1)], .lst (ns.map fun i => .d (.int i))]
def Deal (R S : Store) : Prop := ∃ s x ns, S = dealS s x ns ++ R ∧ 0 ≤ s ∧ s < 2147483647 ∧ 0 ≤ x ∧ ∀ i ∈ ns, 0 ≤ i
section
variable {s x : Int} {ns : List Int} {R : Store}
@[simp] theorem deal_seed : ixV (.loc 0) (.d (.str "seed")) (dealS s x ns ++ R) = .ok (.d (.int s)) (dealS s x ns ++ R) := rfl
@[simp] theorem deal_number : ixV (.loc 0) (.d (.str "number")) (dealS s x ns ++ R) = .ok (.d (.int x)) (dealS s x ns ++ R) := rfl
@[simp] theorem deal_left : ixV (.loc 0) (.d (.str "left")) (dealS s x ns ++ R) = .ok (.loc 1) (dealS s x ns ++ R) := rfl
@[simp] theorem deal_setn {y : Int} : setSub (.loc 0) (.d (.str "number")) (.d (.int y)) (dealS s x ns ++ R) = .ok () (dealS s y ns ++ R) := rfl
@[simp] theorem deal_sets {y : Int} : setSub (.loc 0) (.d (.str "seed")) (.d (.int y)) (dealS s x ns ++ R) = .ok () (dealS y x ns ++ R) := rfl
@[simp] theorem deal_len : biV .len [.loc 1] (dealS s x ns ++ R) = .ok (.d (.int ns.length)) (dealS s x ns ++ R) := by
  show Rs.ok (Vl.d (.int ((ns.map fun i => Vl.d (.int i)).length : Nat))) _ = _
  rw [List.length_map]
@[simp] theorem deal_isl : isTy (dealS s x ns ++ R) "list" (.loc 1) = true := rfl
@[simp] theorem deal_pop {i : Int} : mtV .pop (.loc 1) [] (dealS s x (ns ++ [i]) ++ R) = .ok (.d (.int i)) (dealS s x ns ++ R) := by
  have e : ((ns ++ [i]).map fun i => Vl.d (.int i)) = (ns.map fun i => Vl.d (.int i)) ++ [Vl.d (.int i)] := by simp
  show (match ((ns ++ [i]).map fun i => Vl.d (.int i))[((ns ++ [i]).map fun i => Vl.d (.int i)).length - 1]? with
    | some y => Rs.ok y ((dealS s x (ns ++ [i]) ++ R).set 1 (.lst ((ns ++ [i]).map fun i => Vl.d (.int i)).dropLast))
    | none => .bad) = _
  rw [e]
  have e2 : ((ns.map fun i => Vl.d (.int i)) ++ [Vl.d (.int i)])[((ns.map fun i => Vl.d (.int i)) ++ [Vl.d (.int i)]).length - 1]? = some (Vl.d (.int i)) := by
    rw [List.length_append, List.getElem?_append_right (by simp)]
    simp
  rw [e2, List.dropLast_concat]
  rfl
end
theorem draw_ok {gl : Str → Option PyData} {T : List (Str × Fd)} {k : Nat} {R S : Store} {m : Int} (hT : T.lookup ("_law_draw" : Str) = some f_law_draw) (h : Deal R S) (hm : 0 < m) (hm2 : m < 1073741824) :
    Ok (fnAt gl T (k + 1) "_law_draw" [.loc 0, .d (.int m)] S) (fun v S' => ∃ r, v = .d (.int r) ∧ 0 ≤ r ∧ r < m ∧ Deal R S') E0 := by
  obtain ⟨s, x, ns, rfl, hs, hs2, hx, hn⟩ := h
  rw [ok_fn hT, ok_run]
  refine ⟨rfl, ?_⟩
  unfold f_law_draw
  simp only [List.map_cons, List.map_nil, List.length_cons, List.length_nil, List.replicate, List.cons_append, List.nil_append]
  rw [ok_ss]
  have key : ∀ (n : Nat) (s x : Int) (ns : List Int), ns.length = n → 0 ≤ x → (∀ i ∈ ns, 0 ≤ i) → ∀ Q : Fl → Store → Prop, (∀ x ns, 0 ≤ x → (∀ i ∈ ns, 0 ≤ i) → Q (.nx [some (Vl.loc 0), some (Vl.d (PyData.int m)), none, none, none]) (dealS s x ns ++ R)) →
      Ok (evS ⟨gl, fnAt gl T k⟩ (.whl (.band (.cmp .eq (.ix (.var 0) (.cst (.str "number"))) (.cst (.int 0))) (.cmp .gt (.bi .len (.cons (.ix (.var 0) (.cst (.str "left"))) .nil)) (.cst (.int 0)))) (.cons (.asg (.sub (.var 0) (.cst (.str "number"))) (.mt .pop (.ix (.var 0) (.cst (.str "left"))) .nil)) .nil))
        [some (Vl.loc 0), some (Vl.d (PyData.int m)), none, none, none] (dealS s x ns ++ R)) Q E0 := by
    intro n
    induction n with
    | zero =>
      intro s x ns hl hx hn Q hq
      apply ok_whl
      have : ns = [] := List.length_eq_zero_iff.mp hl
      subst this
      have := hq x [] hx hn
      by_cases h0 : x = 0 <;> simp [h0] at * <;> assumption
    | succ n ih =>
      intro s x ns hl hx hn Q hq
      apply ok_whl
      obtain ⟨ns', i, rfl⟩ : ∃ ns' i, ns = ns' ++ [i] := ⟨ns.dropLast, ns.getLast (by intro z; rw [z] at hl; simp at hl), (List.dropLast_concat_getLast _).symm⟩
      have h1 := ih s i ns' (by simpa using hl) (hn i (by simp)) (fun j hj => hn j (by simp [hj])) Q hq
      have h2 := hq x _ hx hn
      by_cases h0 : x = 0
      · subst h0
        have hp : (0 : Int) < (ns'.length : Int) + 1 := by omega
        simp [hp, Mt.ty]
        exact h1
      · simp [h0]; exact h2
  refine key _ s x ns rfl hx hn _ fun x ns hx hn => ?_
  clear key
  simp
  have dl : ∀ s x ns, 0 ≤ s → s < 2147483647 → 0 ≤ x → (∀ i ∈ ns, 0 ≤ i) → Deal R (dealS s x ns ++ R) := fun s x ns h1 h2 h3 h4 => ⟨s, x, ns, rfl, h1, h2, h3, h4⟩
  split
  · exact ⟨fun _ _ => ⟨fun _ => ⟨Int.emod_nonneg _ (by omega), Int.emod_lt_of_pos _ hm, dl _ _ _ hs hs2 (Int.ediv_nonneg hx (by omega)) hn⟩, hm⟩, hm, hm2⟩
  · have a1 := Int.emod_nonneg (s * 48271 + 7919) (show (2147483647 : Int) ≠ 0 by decide)
    have a2 := Int.emod_lt_of_pos (s * 48271 + 7919) (show (0 : Int) < 2147483647 by decide)
    generalize (s * 48271 + 7919) % 2147483647 = a at *
    have b1 := Int.emod_nonneg (a * 40692 + 104729) (show (2147483399 : Int) ≠ 0 by decide)
    have b2 := Int.emod_lt_of_pos (a * 40692 + 104729) (show (0 : Int) < 2147483399 by decide)
    generalize (a * 40692 + 104729) % 2147483399 = b at *
    exact ⟨fun _ _ => ⟨fun _ _ => ⟨fun _ => ⟨Int.emod_nonneg _ (by omega), Int.emod_lt_of_pos _ hm, dl _ _ _ b1 (by omega) hx hn⟩, hm⟩, by omega, by omega⟩, by omega, by omega⟩
theorem deal_ok {gl : Str → Option PyData} {T : List (Str × Fd)} {k : Nat} {zs : List Int} {b : Nat} (hT : T.lookup ("_law_deal" : Str) = some f_law_deal) (hz : zs.length ≤ 63) (hb : b < 1000) :
    Ok (fnAt gl T (k + 1) "_law_deal" [.scr zs, .d (.int (b : Int))] []) (fun v S' => v = .loc 0 ∧ Deal [] S') E0 := by
  rw [ok_fn hT, ok_run]
  refine ⟨rfl, ?_⟩
  unfold f_law_deal
  simp only [List.map_cons, List.map_nil, List.length_cons, List.length_nil, List.replicate, List.cons_append, List.nil_append]
  simp [-List.map_map]
  have hsz : sizeLine = 16777216 := rfl
  have hc := cutL_len zs (some (b : Int)) (some 63)
  refine ⟨fun _ => ?_, by omega⟩
  refine comp_full (J := fun S => S = []) (p := fun d => ∃ i : Int, d = .int i ∧ 0 ≤ i) (by simp; omega) (fun x hx S hS => ?_) rfl fun ds S' hd hlen hS => ?_
  · subst hS
    obtain ⟨d, hd, rfl⟩ := List.mem_map.mp hx
    obtain ⟨i, _, rfl⟩ := List.mem_map.mp hd
    simp [wipeR]
    split <;> omega
  · subst hS
    obtain ⟨is, rfl, his⟩ := typed hd
    simp only [List.length_map] at hlen
    simp [-List.map_map]
    refine ⟨fun _ => ?_, by omega⟩
    refine ok_for (I := fun r ρ S => S = [] ∧ (∀ x ∈ r, ∃ i : Int, x = .d (.int i)) ∧ ∃ (n : Int) (o : Option Vl), 0 ≤ n ∧ n < 2147483647 ∧ ρ = [some (Vl.scr zs), some (Vl.d (PyData.int ↑b)), some (Vl.d (PyData.list (List.map PyData.int is))), some (Vl.d (PyData.int n)), o]) (fun x r ρ S h => ?_) (fun ρ S h => ?_) _ _ _ ⟨rfl, fun x hx => ?_, _, _, ?_, ?_, rfl⟩
    · obtain ⟨rfl, h1, n, o, n1, n2, rfl⟩ := h
      obtain ⟨i, rfl⟩ := h1 x (by simp)
      refine ⟨trivial, ?_⟩
      simp
      refine ⟨fun y hy => h1 y (by simp [hy]), Int.emod_nonneg _ (by decide), Int.emod_lt_of_pos _ (by decide)⟩
    · obtain ⟨rfl, h1, n, o, n1, n2, rfl⟩ := h
      refine ⟨trivial, ?_⟩
      simp [-List.map_map]
      refine comp_each (J := fun S => S = [.dk []]) (p := fun d => ∃ i : Int, d = .int i ∧ 0 ≤ i) (by simp; omega) (fun x hx S hS => ?_) rfl fun ds S' hd hlen hS => ?_
      · subst hS
        obtain ⟨d, hd, rfl⟩ := List.mem_map.mp hx
        obtain ⟨i, hi, rfl⟩ := List.mem_map.mp hd
        have := his i hi
        simp [wipeR]
        exact fun _ => this
      · subst hS
        obtain ⟨js, rfl, hjs⟩ := typed hd
        simp only [List.length_map] at hlen
        simp [-List.map_map]
        refine ⟨fun _ => ?_, by omega⟩
        rw [← List.map_reverse, ← List.map_reverse]
        simp [-List.map_map]
        refine ⟨fun _ => ?_, by omega⟩
        rw [disp_eq (by rfl) (by rfl) (by decide)]
        refine ⟨rfl, n, 0, js.reverse, ?_, n1, n2, by omega, fun i hi => hjs i (by simpa using hi)⟩
        simp [dealS]
    · obtain ⟨d, hd, rfl⟩ := List.mem_map.mp hx
      obtain ⟨i, hi, rfl⟩ := List.mem_map.mp hd
      exact ⟨i, rfl⟩
    · omega
    · omega
end DL

namespace DL
open PySem PySem.Spec PyProof.Rows L2
theorem sz_eq : sizeLine = 16777216 := rfl
@[simp] theorem rngD_eq {lo hi k : Int} {S : Store} : rngD hi lo k S = if k = -1 ∧ -(2 ^ 62) ≤ lo ∧ lo < 2 ^ 62 ∧ -(2 ^ 62) ≤ hi ∧ hi < 2 ^ 62 then .ok ⟨(List.range (hi - lo).toNat).map fun (i : Nat) => Vl.d (.int (hi + (i : Int) * (-1))), none⟩ S else .bad := rfl
@[simp] theorem rng_eq {lo hi : Int} {S : Store} : rngV lo hi S = if -(2 ^ 62) ≤ lo ∧ lo < 2 ^ 62 ∧ -(2 ^ 62) ≤ hi ∧ hi < 2 ^ 62 then .ok ⟨(List.range (hi - lo).toNat).map fun (i : Nat) => Vl.d (.int (lo + (i : Int))), none⟩ S else .bad := rfl
theorem atI_some {α : Type} {xs : List α} {k : Int} (h0 : 0 ≤ k) (h1 : k < xs.length) : ∃ x, atI xs k = some x ∧ xs[k.toNat]? = some x := by
  unfold atI ixN
  rw [if_pos h0, if_pos h1]
  have : k.toNat < xs.length := by omega
  exact ⟨_, List.getElem?_eq_getElem this, List.getElem?_eq_getElem this⟩
theorem atI_mem2 {α : Type} {xs : List α} {k : Int} (h0 : 0 ≤ k) (h1 : k < xs.length) : ∃ x, atI xs k = some x ∧ x ∈ xs := by
  obtain ⟨x, e1, e2⟩ := atI_some h0 h1
  exact ⟨x, e1, List.mem_of_getElem? e2⟩
theorem len_one {c : Nat} : (⟨#[c]⟩ : Str).length = 1 := rfl
theorem cutS_len {z : Str} {lo hi : Option Int} : (cutS z lo hi).length ≤ z.length := cutS_length z lo hi
theorem typed1 {q : PyData → Prop} {p : Str → Prop} {ds : List PyData} (h : ∀ d ∈ ds, q d) (k : ∀ d, q d → ∃ i, d = .str i ∧ p i) : ∃ is : List Str, ds = is.map .str ∧ ∀ i ∈ is, p i := typed fun d hd => k d (h d hd)
@[simp] theorem mt_join {z : Str} {ys : List Str} {S : Store} : mtV .join (.d (.str z)) [.d (.list (ys.map .str))] S = if (ys.map (fun y : Str => y.length)).sum + ys.length * z.length ≤ 16777216 then .ok (.d (.str (Txt.join z ys))) S else .bad := by
  have e : seqD S (.d (.list (ys.map .str))) = some (ys.map .str) := by
    show pds ((ys.map PyData.str).map .d) = _
    rw [pds_map]
  unfold mtV
  simp only [e, dStrs_map]
@[simp] theorem mty1 : Mt.ty .join = "str" := rfl
@[simp] theorem mty2 : Mt.ty .append = "list" := rfl
@[simp] theorem mty3 : Mt.ty .extend = "list" := rfl
@[simp] theorem mty4 : Mt.ty .pop = "list" := rfl
@[simp] theorem mty5 : Mt.ty .popAt = "list" := rfl
@[simp] theorem mty6 : Mt.ty .reverse = "list" := rfl
@[simp] theorem mty7 : Mt.ty .insert = "list" := rfl
@[simp] theorem isTy_str {z : Str} {S : Store} : isTy S "str" (.d (.str z)) = true := rfl
theorem join_len {z : Str} {ys : List Str} : (Txt.join z ys).length ≤ (ys.map (·.length)).sum + ys.length * z.length := by
  rw [show Txt.join z ys = Str.join z ys from PySem.StrLaws.glued_eq_join z ys]
  exact PySem.StrLaws.join_length_le z ys
theorem sum_le {ys : List Str} {n : Nat} (h : ∀ y ∈ ys, y.length ≤ n) : (ys.map (·.length)).sum ≤ ys.length * n := by
  induction ys with
  | nil => simp
  | cons y ys ih =>
    have h1 := h y (by simp)
    have h2 := ih fun x hx => h x (by simp [hx])
    simp only [List.map_cons, List.sum_cons, List.length_cons, Nat.add_mul]
    omega
@[simp] theorem newL_n {S : Store} : newL false [] S = .ok (.d (.list [])) S := rfl
@[simp] theorem newL_c {x : PyData} {xs : List Vl} {S : Store} (h : xs.length + 1 ≤ 1000) : newL false (Vl.d x :: xs) S = (match (pds xs).map (x :: ·) with
    | some ds => .ok (.d (.list ds)) S
    | none => .bad) := by
  have hz : (Vl.d x :: xs).length ≤ sizeLine := Nat.le_trans h (by decide)
  unfold newL
  rw [if_neg Bool.false_ne_true, if_pos hz]
  rfl
@[simp] theorem newT_n {S : Store} : newT [] S = .ok (.d (.tuple [])) S := rfl
@[simp] theorem newT_c {x : PyData} {xs : List Vl} {S : Store} (h : xs.length + 1 ≤ 1000) : newT (Vl.d x :: xs) S = (match (pds xs).map (x :: ·) with
    | some ds => .ok (.d (.tuple ds)) S
    | none => .bad) := by
  have hz : (Vl.d x :: xs).length ≤ sizeLine := Nat.le_trans h (by decide)
  unfold newT
  rw [if_pos hz]
  rfl
@[simp] theorem slen_app {a b : Str} : (a ++ b).length = a.length + b.length := by
  show (a.cps ++ b.cps).size = _
  rw [Array.size_append]; rfl
theorem strIn1 {c : Nat} {z : Str} : strIn ⟨#[c]⟩ z = decide (c ∈ z.cps.toList) := PySem.StrLaws.found_one z c
theorem any_eqv {xs : List Str} {z : Str} : ((xs.map PyData.str).any fun x => PyData.eqv x (.str z)) = xs.contains z := by
  induction xs with
  | nil => rfl
  | cons x xs ih =>
    simp only [List.map_cons, List.any_cons, ih, List.contains_cons, PyData.eqv]
    by_cases h : x = z
    · subst h; rfl
    · have h' : ¬ z = x := fun e => h e.symm
      rw [show (x == z) = false from beq_eq_false_iff_ne.mpr h, show (z == x) = false from beq_eq_false_iff_ne.mpr h']
end DL

namespace DL
open PySem PySem.Spec PyProof.Rows L2
/-! ### data of a bounded size -/
mutual
def cost : PyData → Nat
  | .none => 4
  | .bool _ => 5
  | .int _ => 22
  | .str x => 10 * x.length + 2
  | .list xs => costAll xs + 4
  | .tuple xs => costAll xs + 4
  | .dict _ => 0
def costAll : List PyData → Nat
  | [] => 0
  | x :: xs => cost x + 2 + costAll xs
end
mutual
def intsB : PyData → Bool
  | .int i => decide (i.natAbs < 10 ^ 20)
  | .list xs => intsAllB xs
  | .tuple xs => intsAllB xs
  | _ => true
def intsAllB : List PyData → Bool
  | [] => true
  | x :: xs => intsB x && intsAllB xs
end
theorem log_of {n : Nat} (h : n < 10 ^ 20) : n.log2 < 1920 := by
  by_cases h0 : n = 0
  · subst h0; decide
  · have : n.log2 < 67 := (Nat.log2_lt h0).mpr (Nat.lt_trans h (by decide))
    omega
theorem piled_le {ts : List Str} : (Str.join ", " ts).length ≤ piled ts := by
  by_cases h : ts = []
  · subst h; exact Nat.le_refl _
  · have := join_length_add ts h; omega
theorem textFrom_le : ∀ (ts : List Str) (k : Nat) (acc : Str), (textFrom k acc ts).length ≤ acc.length + piled ts
  | [], k, acc => by show acc.length ≤ _; omega
  | t :: ts, k, acc => by
    have := textFrom_le ts (k + 1) (acc ++ (if k > 0 then ", " else "" : String) ++ t)
    rw [piled_cons]
    have e : (acc ++ (if k > 0 then ", " else "" : String) ++ t).length ≤ acc.length + 2 + t.length := by
      rw [slen_app, slen_app]
      have : (Str.ofString (if k > 0 then ", " else "")).length ≤ 2 := by split <;> decide
      omega
    show (textFrom (k + 1) _ ts).length ≤ _
    omega
mutual
theorem shown_le : ∀ d : PyData, d.canLay0 = true → intsB d = true → d.shown.length ≤ cost d
  | .none, _, _ => by simp only [PyData.shown, cost]; decide
  | .bool b, _, _ => by cases b <;> simp only [PyData.shown, cost] <;> decide
  | .int i, _, h => by
    simp only [PyData.shown, cost]
    have h : i.natAbs < 10 ^ 20 := by simpa [intsB] using h
    have := int_text_length_le10 (a := i) (k := 20) (by decide) h
    have e : (Str.ofString (toString i)).length = (toString i).length := PySem.ofString_length _
    omega
  | .str x, h, _ => by
    simp only [PyData.shown, cost]
    exact PySem.StrLaws.reprText_len x fun c hc => Nat.lt_trans (strOk_iff.mp (by simpa [PyData.canLay0] using h) c hc) (by decide)
  | .list xs, h, h2 => by
    simp only [PyData.shown, cost]
    have := shownAll_le xs (by simpa [PyData.canLay0] using h) (by simpa [intsB] using h2)
    have t := textFrom_le (PyData.shownAll xs) 0 "["
    unfold listText
    rw [slen_app]
    have e1 : (Str.ofString "[").length = 1 := rfl
    have e2 : (Str.ofString "]").length = 1 := rfl
    omega
  | .tuple xs, h, h2 => by
    simp only [PyData.shown, cost]
    have := shownAll_le xs (by simpa [PyData.canLay0] using h) (by simpa [intsB] using h2)
    have t := piled_le (ts := PyData.shownAll xs)
    unfold tupleText
    rw [slen_app, slen_app]
    have e1 : (Str.ofString "(").length = 1 := rfl
    have e2 : (Str.ofString (if (PyData.shownAll xs).length == 1 then ",)" else ")")).length ≤ 2 := by split <;> decide
    omega
  | .dict _, h, _ => by simp [PyData.canLay0] at h
theorem shownAll_le : ∀ xs : List PyData, PyData.canLayAll0 xs = true → intsAllB xs = true → piled (PyData.shownAll xs) ≤ costAll xs
  | [], _, _ => Nat.le_refl _
  | x :: xs, h, h2 => by
    have h : x.canLay0 = true ∧ PyData.canLayAll0 xs = true := by simpa [PyData.canLayAll0] using h
    have h2 : intsB x = true ∧ intsAllB xs = true := by simpa [intsAllB] using h2
    have a := shown_le x h.1 h2.1
    have b := shownAll_le xs h.2 h2.2
    simp only [PyData.shownAll, costAll, piled_cons]
    omega
end
mutual
theorem show_of : ∀ d : PyData, d.canLay0 = true → intsB d = true → d.showable = true
  | .none, _, _ => rfl
  | .bool _, _, _ => rfl
  | .str _, _, _ => rfl
  | .int i, _, h => by
    simp only [PyData.showable]
    exact decide_eq_true (log_of (by simpa [intsB] using h))
  | .list xs, h, h2 => by simp only [PyData.showable]; exact showAll_of xs (by simpa [PyData.canLay0] using h) (by simpa [intsB] using h2)
  | .tuple xs, h, h2 => by simp only [PyData.showable]; exact showAll_of xs (by simpa [PyData.canLay0] using h) (by simpa [intsB] using h2)
  | .dict _, h, _ => by simp [PyData.canLay0] at h
theorem showAll_of : ∀ xs : List PyData, PyData.canLayAll0 xs = true → intsAllB xs = true → PyData.showableAll xs = true
  | [], _, _ => rfl
  | x :: xs, h, h2 => by
    have h : x.canLay0 = true ∧ PyData.canLayAll0 xs = true := by simpa [PyData.canLayAll0] using h
    have h2 : intsB x = true ∧ intsAllB xs = true := by simpa [intsAllB] using h2
    simp only [PyData.showableAll, show_of x h.1 h2.1, showAll_of xs h.2 h2.2, Bool.and_self]
end
structure Sm (k n : Nat) (d : PyData) : Prop where
  lay : d.canLay0 = true
  ins : intsB d = true
  dep : d.depth ≤ k
  cst : cost d ≤ n
theorem Sm.mono {k n k' n' : Nat} {d : PyData} (h : Sm k n d) (h1 : k ≤ k') (h2 : n ≤ n') : Sm k' n' d := ⟨h.lay, h.ins, Nat.le_trans h.dep h1, Nat.le_trans h.cst h2⟩
theorem Sm.none : Sm 1 22 .none := ⟨rfl, rfl, by simp [PyData.depth], by simp [cost]⟩
theorem Sm.bool {b : Bool} : Sm 1 22 (.bool b) := ⟨rfl, rfl, by simp [PyData.depth], by simp [cost]⟩
theorem Sm.int {i : Int} (h : -(10 ^ 20) < i ∧ i < 10 ^ 20) : Sm 1 22 (.int i) := ⟨rfl, by simp only [intsB]; exact decide_eq_true (by omega), by simp [PyData.depth], by simp [cost]⟩
theorem Sm.str {z : Str} {n : Nat} (h : PyData.strOk z = true) (hl : z.length ≤ n) : Sm 1 (10 * n + 2) (.str z) := ⟨by simpa [PyData.canLay0] using h, rfl, by simp [PyData.depth], by simp only [cost]; omega⟩
theorem Sm.all {k n : Nat} : ∀ {xs : List PyData}, (∀ x ∈ xs, Sm k n x) → PyData.canLayAll0 xs = true ∧ intsAllB xs = true ∧ PyData.depthAll xs ≤ k ∧ costAll xs ≤ xs.length * (n + 2)
  | [], _ => ⟨rfl, rfl, by simp [PyData.depthAll], by simp [costAll]⟩
  | x :: xs, h => by
    obtain ⟨a, b, c, d⟩ := Sm.all fun y hy => h y (List.mem_cons_of_mem _ hy)
    have hx := h x (by simp)
    refine ⟨by simp [PyData.canLayAll0, hx.lay, a], by simp [intsAllB, hx.ins, b], ?_, ?_⟩
    · simp only [PyData.depthAll]
      have := hx.dep
      omega
    · simp only [costAll, List.length_cons, Nat.add_mul]
      have := hx.cst
      omega
theorem Sm.tuple {k n m : Nat} {xs : List PyData} (h : ∀ x ∈ xs, Sm k n x) (hl : xs.length ≤ m) : Sm (k + 1) (m * (n + 2) + 4) (.tuple xs) := by
  obtain ⟨a, b, c, d⟩ := Sm.all h
  have := Nat.mul_le_mul_right (n + 2) hl
  exact ⟨by simpa [PyData.canLay0] using a, by simpa [intsB] using b, by simp only [PyData.depth]; omega, by simp only [cost]; omega⟩
theorem Sm.list {k n m : Nat} {xs : List PyData} (h : ∀ x ∈ xs, Sm k n x) (hl : xs.length ≤ m) : Sm (k + 1) (m * (n + 2) + 4) (.list xs) := by
  obtain ⟨a, b, c, d⟩ := Sm.all h
  have := Nat.mul_le_mul_right (n + 2) hl
  exact ⟨by simpa [PyData.canLay0] using a, by simpa [intsB] using b, by simp only [PyData.depth]; omega, by simp only [cost]; omega⟩
theorem rep_ok {d : PyData} {S : Store} (h : Sm 64 16777216 d) : repV (.d d) S = .ok (.d (.str d.shown)) S := by
  have := shown_le d h.lay h.ins
  have c := h.cst
  show (if d.showable = true ∧ d.depth ≤ 64 ∧ d.shown.length ≤ sizeLine then Rs.ok (Vl.d (.str d.shown)) S else .bad) = _
  rw [if_pos ⟨show_of d h.lay h.ins, h.dep, by rw [sz_eq]; omega⟩]
theorem near_of {a b : PyData} (h : a.depth ≤ 64) : near a b = true := decide_eq_true (Nat.le_trans (Nat.min_le_left _ _) h)
end DL

namespace DL
open PySem PySem.Spec PyProof.Rows L2
/-! ### the store with the dice at its head -/
theorem Deal.len {R S : Store} (h : Deal R S) : S.length = R.length + 2 := by
  obtain ⟨s, x, ns, rfl, _⟩ := h
  simp [dealS]
theorem Deal.get {R S : Store} {n : Nat} (h : Deal R S) : S[n + 2]? = R[n]? := by
  obtain ⟨s, x, ns, rfl, _⟩ := h
  rfl
theorem Deal.push {R S : Store} (o : Ob) (h : Deal R S) : Deal (R ++ [o]) (S ++ [o]) := by
  obtain ⟨s, x, ns, rfl, h1⟩ := h
  exact ⟨s, x, ns, by simp, h1⟩
theorem Deal.put {R S : Store} {n : Nat} (o : Ob) (h : Deal R S) : Deal (R.set n o) (S.set (n + 2) o) := by
  obtain ⟨s, x, ns, rfl, h1⟩ := h
  exact ⟨s, x, ns, rfl, h1⟩
/-- the last object of the store -/
theorem Deal.last {R S : Store} {o : Ob} (h : Deal (R ++ [o]) S) : S[R.length + 2]? = some o := by
  rw [h.get]; simp
theorem Deal.putLast {R S : Store} {o : Ob} (o' : Ob) (h : Deal (R ++ [o]) S) : Deal (R ++ [o']) (S.set (R.length + 2) o') := by
  have := h.put (n := R.length) o'
  simpa using this
@[simp] theorem bin_muls {z : Str} {j : Int} {S : Store} : binV .mul (.d (.str z)) (.d (.int j)) S = if j = 0 then .ok (.d (.str Str.empty)) S else if j = 1 then .ok (.d (.str z)) S else .bad := by
  show ofO ((if j = 0 then some (PyData.str Str.empty) else if j = 1 then some (.str z) else none).map Vl.d) S = _
  split
  · rfl
  · split <;> rfl
@[simp] theorem atI0 {α : Type} {a : α} {l : List α} : atI (a :: l) 0 = some a := by
  unfold atI ixN
  rw [if_pos (by decide), if_pos (by simp only [List.length_cons]; omega)]; rfl
@[simp] theorem atI1 {α : Type} {a b : α} {l : List α} : atI (a :: b :: l) 1 = some b := by
  unfold atI ixN
  rw [if_pos (by decide), if_pos (by simp only [List.length_cons]; omega)]; rfl
@[simp] theorem atI2 {α : Type} {a b c : α} {l : List α} : atI (a :: b :: c :: l) 2 = some c := by
  unfold atI ixN
  rw [if_pos (by decide), if_pos (by simp only [List.length_cons]; omega)]; rfl
@[simp] theorem atI3 {α : Type} {a b c d : α} {l : List α} : atI (a :: b :: c :: d :: l) 3 = some d := by
  unfold atI ixN
  rw [if_pos (by decide), if_pos (by simp only [List.length_cons]; omega)]; rfl
/-! a list in the store -/
section
variable {S : Store} {n : Nat} {xs : List Vl}
theorem app_eq {x : Vl} (h : S[n]? = some (.lst xs)) (hl : xs.length < sizeLine) : mtV .append (.loc n) [x] S = .ok (.d .none) (S.set n (.lst (xs ++ [x]))) := by
  simp only [mtV, onL, h, if_pos hl]
theorem isTy_loc (h : S[n]? = some (.lst xs)) : isTy S "list" (.loc n) = true := by
  simp only [isTy, h]; rfl
theorem len_loc (h : S[n]? = some (.lst xs)) : biV .len [.loc n] S = .ok (.d (.int xs.length)) S := by
  simp only [biV, lenV, h]; rfl
theorem src_loc (h : S[n]? = some (.lst xs)) : srcV (.loc n) S = .ok ⟨xs, some (n, xs)⟩ S := by
  simp only [srcV, h]
theorem frz_loc {ds : List PyData} (h : S[n]? = some (.lst (ds.map .d))) : frzV (.loc n) S = .ok (.d (.list ds)) (S.set n .dead) := by
  simp only [frzV, h, pds_map]
theorem tup_loc {ds : List PyData} (h : S[n]? = some (.lst (ds.map .d))) : biV .tuple [.loc n] S = .ok (.d (.tuple ds)) S := by
  have e : seqD S (.loc n) = some ds := by
    show (rdL S (.loc n)).bind pds = _
    simp only [rdL, h, Option.bind_some, pds_map]
  simp only [biV, e]; rfl
/-- a list made from what stands still -/
theorem comp_fmg {α : Type} {E : EX} {g0 : Option (Nat × List Vl)} {ys : List α} {toD : α → Vl} {f : Vl → M (Option Vl)} {g : α → Option PyData} {Q : List Vl → Store → Prop} (hg : Src.ok ⟨ys.map toD, g0⟩ S) (hl : ys.length ≤ sizeLine)
    (hs : ∀ x ∈ ys, Ok (f (toD x) S) (fun o S' => o = (g x).map .d ∧ S' = S) E0) (hq : Q ((ys.filterMap g).map .d) S) : Ok (compGo ⟨ys.map toD, g0⟩ f (ys.map toD) [] S) Q E := by
  have hgu : guard ⟨ys.map toD, g0⟩ S = .ok () S := by unfold guard; rw [if_pos hg]
  suffices H : ∀ (r : List α) (acc : List Vl), (∀ x ∈ r, x ∈ ys) → acc.length + r.length ≤ sizeLine → compGo ⟨ys.map toD, g0⟩ f (r.map toD) acc S = .ok (acc ++ (r.filterMap g).map .d) S by
    rw [H ys [] (fun _ h => h) (by simpa using hl)]
    exact hq
  intro r
  induction r with
  | nil => intro acc _ _; rw [List.map_nil, compGo_nil, bnd_okd hgu]; simp
  | cons x r ih =>
    intro acc h1 h2
    rw [List.map_cons, compGo_cons, bnd_okd hgu, bnd_okd (ok_eq.mp (hs x (h1 x (by simp))))]
    simp only [List.length_cons] at h2
    cases e : g x with
    | none =>
      rw [List.filterMap_cons, e]
      exact ih acc (fun y hy => h1 y (by simp [hy])) (by omega)
    | some d =>
      rw [List.filterMap_cons, e]
      show (if acc.length < sizeLine then compGo _ f (r.map toD) (acc ++ [.d d]) else bad) S = _
      rw [if_pos (by omega), ih _ (fun y hy => h1 y (by simp [hy])) (by simp; omega)]
      simp
theorem comp_eachg {E : EX} {g : Option (Nat × List Vl)} {xs : List Vl} {f : Vl → M (Option Vl)} {J : Store → Prop} {p : PyData → Prop} {Q : List Vl → Store → Prop} (hg : ∀ S, J S → Src.ok ⟨xs, g⟩ S) (hl : xs.length < sizeLine)
    (hs : ∀ x ∈ xs, ∀ S, J S → Ok (f x S) (fun o S' => J S' ∧ ∀ y, o = some y → ∃ d, y = .d d ∧ p d) E) (hJ : J S) (hq : ∀ (ds : List PyData) S', (∀ d ∈ ds, p d) → ds.length ≤ xs.length → J S' → Q (ds.map .d) S') : Ok (compGo ⟨xs, g⟩ f xs [] S) Q E := by
  refine ok_comp (I := fun r acc S => J S ∧ (∀ x ∈ r, x ∈ xs) ∧ acc.length + r.length ≤ xs.length ∧ ∃ ds : List PyData, acc = ds.map .d ∧ ∀ d ∈ ds, p d) (fun x r acc S h => ?_) (fun acc S h => ?_) xs [] S ⟨hJ, fun _ h => h, by simp, [], rfl, fun _ h => by cases h⟩
  · obtain ⟨h1, h2, h3, ds, rfl, h5⟩ := h
    refine ⟨hg S h1, (hs x (h2 x (by simp)) S h1).imp (fun o S' q => ?_) fun _ _ _ z => z⟩
    have h6 : ∀ y ∈ r, y ∈ xs := fun y hy => h2 y (by simp [hy])
    simp only [List.length_cons, List.length_map] at h3
    cases o with
    | none => exact ⟨q.1, h6, by rw [List.length_map]; omega, ds, rfl, h5⟩
    | some y =>
      obtain ⟨d, rfl, hd⟩ := q.2 y rfl
      refine ⟨by rw [List.length_map]; omega, q.1, h6, by rw [List.length_append, List.length_map]; simp; omega, ds ++ [d], by simp, fun e he => ?_⟩
      rcases List.mem_append.mp he with he | he
      · exact h5 e he
      · rw [List.mem_singleton.mp he]; exact hd
  · obtain ⟨h1, h2, h3, ds, rfl, h5⟩ := h
    exact ⟨hg S h1, hq ds S h5 (by simpa using h3) h1⟩
theorem asD_loc {ds : List PyData} (h : S[n]? = some (.lst (ds.map .d))) : asD S (.loc n) = some (.list ds) := by
  simp only [asD, h, pds_map]; rfl
theorem ni_loc {a : PyData} {ds : List PyData} (h : S[n]? = some (.lst (ds.map .d))) (ha : a.depth ≤ 64) : cmpV .notin (.d a) (.loc n) S = .ok (.d (.bool (!ds.any fun z => PyData.eqv z a))) S := by
  have e := cmp_niL (S := S) (xs := ds) ha
  have hi : inD S a n = none := by unfold inD; rw [h]
  have el : cmpV .notin (.d a) (.loc n) S = cmpO .notin (.d a) (.loc n) S := by
    unfold cmpV
    simp only [hi]
  have er : cmpV .notin (.d a) (.d (.list ds)) S = cmpO .notin (.d a) (.d (.list ds)) S := by
    simp only [cmpV]
  rw [el]
  rw [er] at e
  unfold cmpO at e ⊢
  rw [asD_loc h]
  exact e
theorem rep_loc {ds : List PyData} (h : S[n]? = some (.lst (ds.map .d))) (hs : Sm 64 16777216 (.list ds)) : repV (.loc n) S = .ok (.d (.str (PyData.list ds).shown)) S := by
  have := rep_ok (S := S) hs
  unfold repV at this ⊢
  rw [asD_loc h]
  exact this
end
def f_law_names : Fd := ⟨["_law_deal_here", "_law_many"], ["_law_deal_here", "_law_many", "_law_letters", "_law_core", "_law_at", "_law_turn", "_law_longer", "_law_found", "_law_k", "_law_sign", "_law_name"],
 (.cons (.asg (.tg (.nm 2)) (.cst (.str "abcdefghijklmnopqrstuvwxyz")))
 (.cons (.asg (.tg (.nm 3)) (.mt .join (.cst (.str "")) (.cons (.comp false [("_law_k", 8)] (.nm 8) (.rng1 (.call false "_law_draw" (.cons (.var 0) (.cons (.cst (.int 5)) .nil)))) .no (.ix (.var 2) (.call false "_law_draw" (.cons (.var 0) (.cons (.cst (.int 26)) .nil))))) .nil)))
 (.cons (.asg (.tg (.nm 4)) (.call false "_law_draw" (.cons (.var 0) (.cons (.bin (.add false) (.bi .len (.cons (.var 3) .nil)) (.cst (.int 1))) .nil))))
 (.cons (.asg (.tg (.nm 5)) (.call false "_law_draw" (.cons (.var 0) (.cons (.cst (.int 26)) .nil))))
 (.cons (.asg (.tg (.nm 6)) (.bin .mul (.cst (.str "z")) (.call false "_law_draw" (.cons (.var 0) (.cons (.cst (.int 2)) .nil)))))
 (.cons (.asg (.tg (.nm 7)) (.lst true .nil))
 (.cons (.fr (.nm 8) (.rng1 (.var 1))
 (.cons (.asg (.tg (.nm 9)) (.ix (.var 2) (.bin .mod (.bin (.add false) (.var 5) (.bin .mul (.cst (.int 7)) (.var 8))) (.cst (.int 26)))))
 (.cons (.asg (.tg (.nm 10)) (.bin (.add false) (.bin (.add false) (.bin (.add false) (.sl false (.var 3) .no (.yes (.var 4))) (.var 9)) (.sl false (.var 3) (.yes (.var 4)) .no)) (.var 6)))
 (.cons (.ife (.cmp .isin (.var 10) (.tup (.cons (.cst (.str "place")) (.cons (.cst (.str "rule")) (.cons (.cst (.str "own")) (.cons (.cst (.str "arrow")) (.cons (.cst (.str "ends")) (.cons (.cst (.str "one")) (.cons (.cst (.str "other")) .nil)))))))))
 (.cons (.asg (.tg (.nm 10)) (.bin (.add false) (.var 10) (.cst (.str "q"))))
 .nil)
 .nil)
 (.cons (.expr (.mt .append (.var 7) (.cons (.var 10) .nil)))
 .nil)))))
 (.cons (.ret (.frz (.var 7)))
 .nil))))))))⟩

def f_law_put : Fd := ⟨["_law_deal_here", "_law_many"], ["_law_deal_here", "_law_many", "_law_k"],
 (.cons (.ret (.bi .tuple (.cons (.comp false [("_law_k", 2)] (.nm 2) (.rng1 (.ix (.lst false (.cons (.cst (.int 0)) (.cons (.cst (.int 1)) (.cons (.cst (.int 2)) (.cons (.cst (.int 2)) (.cons (.cst (.int 1)) .nil)))))) (.call false "_law_draw" (.cons (.var 0) (.cons (.cst (.int 5)) .nil))))) .no (.call false "_law_draw" (.cons (.var 0) (.cons (.var 1) .nil)))) .nil)))
 .nil)⟩

def f_law_rule : Fd := ⟨["_law_deal_here", "_law_places", "_law_letters"], ["_law_deal_here", "_law_places", "_law_letters", "_law_p", "_law_x", "_law_q"],
 (.cons (.par [3, 4, 5] (.cons (.call false "_law_draw" (.cons (.var 0) (.cons (.var 1) .nil))) (.cons (.call false "_law_draw" (.cons (.var 0) (.cons (.var 2) .nil))) (.cons (.call false "_law_draw" (.cons (.var 0) (.cons (.var 1) .nil))) .nil))))
 (.cons (.ret (.tup (.cons (.var 3) (.cons (.var 4) (.cons (.var 5) (.cons (.call false "_law_put" (.cons (.var 0) (.cons (.var 2) .nil))) .nil))))))
 .nil))⟩

def f_law_game : Fd := ⟨["_law_deal_here"], ["_law_deal_here", "_law_names_here", "_law_places", "_law_letters", "_law_rules", "_law_k", "_law_rule_here", "_law_pushes", "_law_answers", "_law_name", "_law_one"],
 (.cons (.asg (.tg (.nm 1)) (.call false "_law_names" (.cons (.var 0) (.cons (.cst (.int 3)) .nil))))
 (.cons (.asg (.tg (.nm 2)) (.bi .tuple (.cons (.comp false [("_law_name", 9)] (.nm 9) (.val (.sl false (.var 1) .no (.yes (.bin (.add false) (.cst (.int 1)) (.call false "_law_draw" (.cons (.var 0) (.cons (.cst (.int 3)) .nil))))))) .no (.tup (.cons (.var 9) (.cons (.call false "_law_draw" (.cons (.var 0) (.cons (.cst (.int 2)) .nil))) .nil)))) .nil)))
 (.cons (.asg (.tg (.nm 3)) (.bi .tuple (.cons (.sl false (.ix (.lst false (.cons (.var 1) (.cons (.call false "_law_names" (.cons (.var 0) (.cons (.cst (.int 3)) .nil))) .nil))) (.call false "_law_draw" (.cons (.var 0) (.cons (.cst (.int 2)) .nil)))) .no (.yes (.bin (.add false) (.cst (.int 1)) (.call false "_law_draw" (.cons (.var 0) (.cons (.cst (.int 3)) .nil)))))) .nil)))
 (.cons (.asg (.tg (.nm 4)) (.lst true .nil))
 (.cons (.fr (.nm 5) (.rng1 (.call false "_law_draw" (.cons (.var 0) (.cons (.cst (.int 12)) .nil))))
 (.cons (.asg (.tg (.nm 6)) (.call false "_law_rule" (.cons (.var 0) (.cons (.bi .len (.cons (.var 2) .nil)) (.cons (.bi .len (.cons (.var 3) .nil)) .nil)))))
 (.cons (.asg (.tg (.nm 7)) (.bi .len (.cons (.comp false [("_law_one", 10)] (.nm 10) (.val (.var 4)) (.yes (.cmp .eq (.bi .len (.cons (.ix (.var 10) (.cst (.int 3))) .nil)) (.cst (.int 2)))) (.var 10)) .nil)))
 (.cons (.asg (.tg (.nm 8)) (.bin .mul (.ix (.ix (.var 2) (.ix (.var 6) (.cst (.int 0)))) (.cst (.int 1))) (.bi .len (.cons (.comp false [("_law_one", 10)] (.nm 10) (.val (.var 4)) (.yes (.cmp .eq (.sl false (.var 10) .no (.yes (.cst (.int 2)))) (.sl false (.var 6) .no (.yes (.cst (.int 2)))))) (.var 10)) .nil))))
 (.cons (.ife (.band (.cmp .notin (.var 6) (.var 4)) (.band (.cmp .lt (.bi .len (.cons (.var 4) .nil)) (.cst (.int 8))) (.band (.cmp .lt (.bin (.add false) (.var 7) (.bi .int (.cons (.cmp .eq (.bi .len (.cons (.ix (.var 6) (.cst (.int 3))) .nil)) (.cst (.int 2))) .nil))) (.cst (.int 4))) (.cmp .lt (.var 8) (.cst (.int 2))))))
 (.cons (.expr (.mt .append (.var 4) (.cons (.var 6) .nil)))
 .nil)
 .nil)
 .nil)))))
 (.cons (.ret (.tup (.cons (.var 2) (.cons (.var 3) (.cons (.bi .tuple (.cons (.var 4) .nil)) .nil)))))
 .nil))))))⟩

def f_law_near : Fd := ⟨["_law_deal_here", "_law_game_here"], ["_law_deal_here", "_law_game_here", "_law_at", "_law_rule_here", "_law_places", "_law_letters", "_law_rules", "_law_p", "_law_x", "_law_q", "_law_w", "_law_one"],
 (.cons (.asg (.tg (.tp (.cons (.nm 4) (.cons (.nm 5) (.cons (.nm 6) .nil))))) (.var 1))
 (.cons (.ife (.cmp .eq (.bi .len (.cons (.var 6) .nil)) (.cst (.int 0)))
 (.cons (.ret (.var 1))
 .nil)
 .nil)
 (.cons (.asg (.tg (.nm 2)) (.call false "_law_draw" (.cons (.var 0) (.cons (.bi .len (.cons (.var 6) .nil)) .nil))))
 (.cons (.asg (.tg (.tp (.cons (.nm 7) (.cons (.nm 8) (.cons (.nm 9) (.cons (.nm 10) .nil)))))) (.ix (.var 6) (.var 2)))
 (.cons (.asg (.tg (.nm 3)) (.tup (.cons (.var 7) (.cons (.var 8) (.cons (.call false "_law_draw" (.cons (.var 0) (.cons (.bi .len (.cons (.var 4) .nil)) .nil))) (.cons (.bi .tuple (.cons (.comp false [("_law_one", 11)] (.nm 11) (.val (.var 10)) .no (.call false "_law_draw" (.cons (.var 0) (.cons (.bi .len (.cons (.var 5) .nil)) .nil)))) .nil)) .nil))))))
 (.cons (.ife (.cmp .isin (.var 3) (.var 6))
 (.cons (.ret (.var 1))
 .nil)
 .nil)
 (.cons (.ret (.tup (.cons (.var 4) (.cons (.var 5) (.cons (.bin (.add false) (.bin (.add false) (.sl false (.var 6) .no (.yes (.var 2))) (.tup (.cons (.var 3) .nil))) (.sl false (.var 6) (.yes (.bin (.add false) (.var 2) (.cst (.int 1)))) .no)) .nil)))))
 .nil)))))))⟩


section
variable {gl : Str → Option PyData} {T : List (Str × Fd)} {k : Nat} {R S : Store}
/-- a name -/
def nmOk (z : Str) : Prop := PyData.strOk z = true ∧ z.length ≤ 20
theorem names_ok {n : Int} (hD : T.lookup ("_law_draw" : Str) = some f_law_draw) (hT : T.lookup ("_law_names" : Str) = some f_law_names) (h : Deal R S) (h0 : 0 ≤ n) (h1 : n ≤ 100) :
    Ok (fnAt gl T (k + 2) "_law_names" [.loc 0, .d (.int n)] S) (fun v S' => ∃ zs : List Str, v = .d (.list (zs.map .str)) ∧ (zs.length : Int) = n ∧ (∀ z ∈ zs, nmOk z) ∧ Deal (R ++ [.dead]) S') E0 := by
  have sz := sz_eq
  have hDk : ∀ {R S m}, Deal R S → 0 < m → m < 1073741824 → Ok (fnAt gl T (k + 1) "_law_draw" [.loc 0, .d (.int m)] S) (fun v S' => ∃ r, v = .d (.int r) ∧ 0 ≤ r ∧ r < m ∧ Deal R S') E0 := fun h h1 h2 => draw_ok hD h h1 h2
  have el : ("abcdefghijklmnopqrstuvwxyz" : Str).length ≤ sizeLine := by decide
  have ok1 : PyData.strOk ("abcdefghijklmnopqrstuvwxyz" : Str) = true := by decide +kernel
  rw [ok_fn hT, ok_run]
  refine ⟨rfl, ?_⟩
  unfold f_law_names
  simp [-List.map_map]
  refine (hDk h (by decide) (by decide)).imp0 fun v S1 ⟨r, e, r0, r1, h2⟩ => ?_
  subst e
  simp [-List.map_map]
  refine ⟨fun _ _ => ?_, by omega, by omega⟩
  refine comp_full (J := Deal R) (p := fun d => ∃ z, d = .str z ∧ z.length ≤ 1 ∧ PyData.strOk z = true) (by simp; rw [sz]; omega) (fun x hx S hS => ?_) h2 fun ds S' hd hlen hS => ?_
  · obtain ⟨i, hi, rfl⟩ := List.mem_map.mp hx
    simp [wipeR]
    refine (hDk hS (by decide) (by decide)).imp0 fun v S' ⟨r, e, r0, r1, hS'⟩ => ?_
    subst e
    obtain ⟨c, e, hc⟩ := atI_mem2 (xs := ("abcdefghijklmnopqrstuvwxyz" : Str).cps.toList) r0 (by exact r1)
    simp [e, el, hS', len_one, strOk_one ok1 hc]
  · obtain ⟨zs, rfl, hz⟩ := typed hd
    have s1 := sum_le fun z hz' => (hz z hz').1
    simp at hlen
    have e0 : (Str.ofString "").length = 0 := rfl
    have hj := join_len (z := (Str.ofString "")) (ys := zs)
    have oj : PyData.strOk (Txt.join (Str.ofString "") zs) = true := strOk_join (by decide +kernel) fun y hy => (hz y hy).2
    have c1 : zs.length ≤ sizeLine := by omega
    have c2 : (zs.map (fun y : Str => y.length)).sum + zs.length * (Str.ofString "").length ≤ 16777216 := by rw [e0]; omega
    rw [e0] at hj
    generalize hcore : Txt.join (Str.ofString "") zs = core at *
    have c3 : core.length ≤ 4 := by omega
    have c4 : core.length ≤ sizeLine := by omega
    simp [-List.map_map, c1, c2, hcore, c4]
    refine (hDk hS (by omega) (by omega)).imp0 fun v S2 ⟨at_, e, a0, a1, h3⟩ => ?_
    subst e
    (try simp [-List.map_map])
    refine (hDk h3 (by omega) (by omega)).imp0 fun v S3 ⟨tn, e, t0, t1, h4⟩ => ?_
    subst e
    (try simp [-List.map_map])
    refine (hDk h4 (by omega) (by omega)).imp0 fun v S4 ⟨lg, e, l0, l1, h5⟩ => ?_
    subst e
    obtain ⟨lz, elz, okl, hll⟩ : ∃ lz : Str, binV .mul (.d (.str "z")) (.d (.int lg)) S4 = .ok (.d (.str lz)) S4 ∧ PyData.strOk lz = true ∧ lz.length ≤ 1 := by
      by_cases h0 : lg = 0
      · subst h0; exact ⟨Str.empty, by simp, by decide +kernel, by decide⟩
      · have : lg = 1 := by omega
        subst this; exact ⟨Str.ofString "z", by simp, by decide +kernel, by decide⟩
    simp [-List.map_map, elz, -bin_muls, h5.len]
    refine ⟨fun _ _ => ?_, by omega, by omega⟩
    refine ok_for (I := fun r ρ S => (∀ x ∈ r, ∃ i : Nat, (i : Int) < n ∧ x = .d (.int i)) ∧ (∃ zs : List Str, (zs.length + r.length : Int) = n ∧ (∀ z ∈ zs, nmOk z) ∧ Deal (R ++ [.lst ((zs.map PyData.str).map .d)]) S) ∧ ∃ o1 o2 o3, ρ = [some (Vl.loc 0), some (Vl.d (PyData.int n)), some (Vl.d (PyData.str "abcdefghijklmnopqrstuvwxyz")), some (Vl.d (PyData.str core)), some (Vl.d (PyData.int at_)), some (Vl.d (PyData.int tn)), some (Vl.d (PyData.str lz)), some (Vl.loc (R.length + 2)), o1, o2, o3]) (fun x r ρ S h => ?_) (fun ρ S h => ?_) _ _ _ ⟨fun x hx => ?_, ⟨[], ?_, ?_, ?_⟩, _, _, _, rfl⟩
    · obtain ⟨h1, ⟨zs, hl, hz, hS⟩, o1, o2, o3, rfl⟩ := h
      obtain ⟨i, hi, rfl⟩ := h1 x (by simp)
      refine ⟨trivial, ?_⟩
      have m1 := Int.emod_nonneg (tn + 7 * (i : Int)) (show (26 : Int) ≠ 0 by decide)
      have m2 := Int.emod_lt_of_pos (tn + 7 * (i : Int)) (show (0 : Int) < 26 by decide)
      obtain ⟨c, ec, hcm⟩ := atI_mem2 (xs := ("abcdefghijklmnopqrstuvwxyz" : Str).cps.toList) m1 (by exact m2)
      have l1 := cutS_len (z := core) (lo := none) (hi := some at_)
      have l2 := cutS_len (z := core) (lo := some at_) (hi := none)
      simp only [List.length_cons] at hl
      have q1 : (cutS core none (some at_)).length + 1 ≤ sizeLine := by omega
      have q2 : (cutS core none (some at_)).length + 1 + (cutS core (some at_) none).length ≤ sizeLine := by omega
      have q3 : (cutS core none (some at_)).length + 1 + (cutS core (some at_) none).length + lz.length ≤ sizeLine := by omega
      have okn : PyData.strOk (cutS core none (some at_) ++ ⟨#[c]⟩ ++ cutS core (some at_) none ++ lz) = true := strOk_app (strOk_app (strOk_app (strOk_cut oj) (strOk_one ok1 hcm)) (strOk_cut oj)) okl
      simp [-List.map_map, ec, el, c4, q1, q2, q3, len_one]
      have hnl : (cutS core none (some at_) ++ ⟨#[c]⟩ ++ cutS core (some at_) none ++ lz).length = (cutS core none (some at_)).length + 1 + (cutS core (some at_) none).length + lz.length := by simp only [slen_app, len_one]
      have fin : ∀ nm : Str, PyData.strOk nm = true → nm.length ≤ 20 → Ok (mtV Mt.append (Vl.loc (R.length + 2)) [Vl.d (PyData.str nm)] S) (fun a S' => (∀ x ∈ r, ∃ i : Nat, (i : Int) < n ∧ x = Vl.d (PyData.int (i : Int))) ∧ ∃ zs : List Str, (zs.length : Int) + r.length = n ∧ (∀ z ∈ zs, nmOk z) ∧ Deal (R ++ [Ob.lst (List.map Vl.d (List.map PyData.str zs))]) S') E0 := by
        intro nm o1 o2
        rw [app_eq hS.last (by simp; omega)]
        refine ⟨fun y hy => h1 y (by simp [hy]), zs ++ [nm], by simp; omega, fun z hz' => ?_, ?_⟩
        · rcases List.mem_append.mp hz' with h | h
          · exact hz z h
          · rw [List.mem_singleton.mp h]; exact ⟨o1, o2⟩
        · have := hS.putLast (.lst (List.map Vl.d (List.map PyData.str zs) ++ [Vl.d (.str nm)]))
          simpa using this
      generalize hnm : cutS core none (some at_) ++ ⟨#[c]⟩ ++ cutS core (some at_) none ++ lz = nm at *
      have eq1 : (Str.ofString "q").length = 1 := rfl
      have q4 : (cutS core none (some at_)).length + 1 + (cutS core (some at_) none).length + lz.length + 1 ≤ sizeLine := by omega
      rw [cmp_inT (by simp [PyData.depth])]
      simp [-List.map_map, isTy_loc hS.last, eq1, q4]
      split
      · exact fin _ (strOk_app okn (show PyData.strOk (Str.ofString "q") = true by decide +kernel)) (by rw [slen_app, eq1]; omega)
      · exact fin _ okn (by omega)
    · obtain ⟨h1, ⟨zs, hl, hz, hS⟩, o1, o2, o3, rfl⟩ := h
      refine ⟨trivial, ?_⟩
      simp [frz_loc hS.last]
      exact ⟨zs, rfl, by simpa using hl, hz, hS.putLast _⟩
    · obtain ⟨i, hi, rfl⟩ := List.mem_map.mp hx
      exact ⟨i, by have := List.mem_range.mp hi; omega, by simp⟩
    · simp; omega
    · simp
    · exact h5.push _
end
end DL

namespace DL
open PySem PySem.Spec PyProof.Rows L2
/-! ### the games that the laws make -/
structure Rl where
  p : Int
  x : Int
  q : Int
  w : List Int
def rD (r : Rl) : PyData := .tuple [.int r.p, .int r.x, .int r.q, .tuple (r.w.map .int)]
def rOk (P L : Int) (r : Rl) : Prop := 0 ≤ r.p ∧ r.p < P ∧ 0 ≤ r.x ∧ r.x < L ∧ 0 ≤ r.q ∧ r.q < P ∧ r.w.length ≤ 2 ∧ ∀ i ∈ r.w, 0 ≤ i ∧ i < L
structure Gm where
  pl : List (Str × Int)
  lt : List Str
  rs : List Rl
def pD (p : Str × Int) : PyData := .tuple [.str p.1, .int p.2]
def gD (g : Gm) : PyData := .tuple [.tuple (g.pl.map pD), .tuple (g.lt.map .str), .tuple (g.rs.map rD)]
structure GmOk (g : Gm) : Prop where
  p1 : 1 ≤ g.pl.length
  p3 : g.pl.length ≤ 3
  l1 : 1 ≤ g.lt.length
  l3 : g.lt.length ≤ 3
  r8 : g.rs.length ≤ 8
  pl : ∀ p ∈ g.pl, nmOk p.1 ∧ 0 ≤ p.2 ∧ p.2 < 2
  lt : ∀ z ∈ g.lt, nmOk z
  rs : ∀ r ∈ g.rs, rOk g.pl.length g.lt.length r
theorem cut2 {a b c d : PyData} : cutL [a, b, c, d] none (some 2) = [a, b] := rfl
end DL

namespace DL
open PySem PySem.Spec PyProof.Rows L2
/-! ### the pot: the second kind of dice -/
def f_law_pot : Fd := ⟨["_law_script", "_law_base"], ["_law_script", "_law_base", "_law_seed", "_law_left", "_law_cell"],
 (.cons (.asg (.tg (.nm 2)) (.bin (.add false) (.bin .mul (.cst (.int 7919)) (.var 1)) (.cst (.int 104729))))
 (.cons (.asg (.tg (.nm 3)) (.lst true .nil))
 (.cons (.fr (.nm 4) (.val (.sl false (.var 0) (.yes (.var 1)) (.yes (.cst (.int 63)))))
 (.cons (.asg (.tg (.nm 2)) (.bin .mod (.bin (.add false) (.bin (.add false) (.bin .mul (.var 2) (.cst (.int 48271))) (.bin .mod (.var 4) (.cst (.int 2147483629)))) (.cst (.int 1))) (.cst (.int 2147483647))))
 (.cons (.ife (.cmp .ge (.var 4) (.bin .pow (.cst (.int 10)) (.cst (.int 18))))
 (.cons (.expr (.mt .append (.var 3) (.cons (.var 4) .nil)))
 .nil)
 .nil)
 .nil)))
 (.cons (.ret (.lst true (.cons (.var 2) (.cons (.cst (.int 0)) (.cons (.var 3) .nil)))))
 .nil))))⟩

def f_pot_draw : Fd := ⟨["_law_pot_here", "_law_many"], ["_law_pot_here", "_law_many", "_law_one", "_law_digit"],
 (.cons (.whl (.band (.cmp .eq (.ix (.var 0) (.cst (.int 1))) (.cst (.int 0))) (.cmp .gt (.bi .len (.cons (.ix (.var 0) (.cst (.int 2))) .nil)) (.cst (.int 0))))
 (.cons (.asg (.sub (.var 0) (.cst (.int 1))) (.mt .popAt (.ix (.var 0) (.cst (.int 2))) (.cons (.cst (.int 0)) .nil)))
 .nil))
 (.cons (.ife (.cmp .gt (.ix (.var 0) (.cst (.int 1))) (.cst (.int 0)))
 (.cons (.asg (.tg (.nm 3)) (.bin .mod (.ix (.var 0) (.cst (.int 1))) (.var 1)))
 (.cons (.asg (.sub (.var 0) (.cst (.int 1))) (.bin .fdiv (.ix (.var 0) (.cst (.int 1))) (.var 1)))
 (.cons (.ret (.var 3))
 .nil)))
 .nil)
 (.cons (.asg (.tg (.nm 2)) (.bin .mod (.bin (.add false) (.bin .mul (.ix (.var 0) (.cst (.int 0))) (.cst (.int 48271))) (.cst (.int 7919))) (.cst (.int 2147483647))))
 (.cons (.asg (.sub (.var 0) (.cst (.int 0))) (.bin (.add false) (.bin .mod (.bin (.add false) (.bin .mul (.var 2) (.cst (.int 40692))) (.cst (.int 12345))) (.cst (.int 2147483399))) (.cst (.int 1))))
 (.cons (.ret (.bin .mod (.bin .fdiv (.bin (.add false) (.bin .mul (.bin .mod (.bin .mul (.var 2) (.var 2)) (.cst (.int 2147483629))) (.cst (.int 31))) (.ix (.var 0) (.cst (.int 0)))) (.cst (.int 64))) (.var 1)))
 .nil)))))⟩

def potS (s x : Int) (ns : List Int) : Store := [.lst (ns.map fun i => .d (.int i)), .lst [.d (.int s), .d (.int x), .loc 0]]
def Pot (R S : Store) : Prop := ∃ s x ns, S = potS s x ns ++ R ∧ 0 ≤ s ∧ s < 2147483648 ∧ 0 ≤ x ∧ ∀ i ∈ ns, 0 ≤ i
section
variable {s x : Int} {ns : List Int} {R : Store}
@[simp] theorem pot_0 : ixV (.loc 1) (.d (.int 0)) (potS s x ns ++ R) = .ok (.d (.int s)) (potS s x ns ++ R) := rfl
@[simp] theorem pot_1 : ixV (.loc 1) (.d (.int 1)) (potS s x ns ++ R) = .ok (.d (.int x)) (potS s x ns ++ R) := rfl
@[simp] theorem pot_2 : ixV (.loc 1) (.d (.int 2)) (potS s x ns ++ R) = .ok (.loc 0) (potS s x ns ++ R) := rfl
@[simp] theorem pot_set1 {y : Int} : setSub (.loc 1) (.d (.int 1)) (.d (.int y)) (potS s x ns ++ R) = .ok () (potS s y ns ++ R) := rfl
@[simp] theorem pot_set0 {y : Int} : setSub (.loc 1) (.d (.int 0)) (.d (.int y)) (potS s x ns ++ R) = .ok () (potS y x ns ++ R) := rfl
@[simp] theorem pot_len : biV .len [.loc 0] (potS s x ns ++ R) = .ok (.d (.int ns.length)) (potS s x ns ++ R) := by
  show Rs.ok (Vl.d (.int ((ns.map fun i => Vl.d (.int i)).length : Nat))) _ = _
  rw [List.length_map]
@[simp] theorem pot_isl : isTy (potS s x ns ++ R) "list" (.loc 0) = true := rfl
@[simp] theorem pot_pop {i : Int} : mtV .popAt (.loc 0) [.d (.int 0)] (potS s x (i :: ns) ++ R) = .ok (.d (.int i)) (potS s x ns ++ R) := by
  have e : seqIndex? 0 ((i :: ns).map fun i => Vl.d (.int i)).length = some 0 := by
    unfold seqIndex?
    simp
  show (match (if -(2 ^ 63) ≤ (0 : Int) ∧ (0 : Int) < 2 ^ 63 then seqIndex? 0 ((i :: ns).map fun i => Vl.d (.int i)).length else none) with
    | some k => (match ((i :: ns).map fun i => Vl.d (.int i))[k]? with
      | some y => Rs.ok y ((potS s x (i :: ns) ++ R).set 0 (.lst (((i :: ns).map fun i => Vl.d (.int i)).eraseIdx k)))
      | none => .bad)
    | none => .bad) = _
  rw [if_pos (by decide), e]
  rfl
end
theorem pdraw_ok {gl : Str → Option PyData} {T : List (Str × Fd)} {k : Nat} {R S : Store} {m : Int} (hT : T.lookup ("_law_draw" : Str) = some f_pot_draw) (h : Pot R S) (hm : 0 < m) (hm2 : m < 1073741824) :
    Ok (fnAt gl T (k + 1) "_law_draw" [.loc 1, .d (.int m)] S) (fun v S' => ∃ r, v = .d (.int r) ∧ 0 ≤ r ∧ r < m ∧ Pot R S') E0 := by
  obtain ⟨s, x, ns, rfl, hs, hs2, hx, hn⟩ := h
  rw [ok_fn hT, ok_run]
  refine ⟨rfl, ?_⟩
  unfold f_pot_draw
  simp only [List.map_cons, List.map_nil, List.length_cons, List.length_nil, List.replicate, List.cons_append, List.nil_append]
  rw [ok_ss]
  have key : ∀ (ns : List Int) (s x : Int), 0 ≤ x → (∀ i ∈ ns, 0 ≤ i) → ∀ Q : Fl → Store → Prop, (∀ x ns, 0 ≤ x → (∀ i ∈ ns, 0 ≤ i) → Q (.nx [some (Vl.loc 1), some (Vl.d (PyData.int m)), none, none]) (potS s x ns ++ R)) →
      Ok (evS ⟨gl, fnAt gl T k⟩ (.whl (.band (.cmp .eq (.ix (.var 0) (.cst (.int 1))) (.cst (.int 0))) (.cmp .gt (.bi .len (.cons (.ix (.var 0) (.cst (.int 2))) .nil)) (.cst (.int 0)))) (.cons (.asg (.sub (.var 0) (.cst (.int 1))) (.mt .popAt (.ix (.var 0) (.cst (.int 2))) (.cons (.cst (.int 0)) .nil))) .nil))
        [some (Vl.loc 1), some (Vl.d (PyData.int m)), none, none] (potS s x ns ++ R)) Q E0 := by
    intro ns
    induction ns with
    | nil =>
      intro s x hx hn Q hq
      apply ok_whl
      have := hq x [] hx hn
      by_cases h0 : x = 0 <;> simp [h0] at * <;> assumption
    | cons i ns ih =>
      intro s x hx hn Q hq
      apply ok_whl
      have h1 := ih s i (hn i (by simp)) (fun j hj => hn j (by simp [hj])) Q hq
      have h2 := hq x _ hx hn
      by_cases h0 : x = 0
      · subst h0
        have hp : (0 : Int) < (ns.length : Int) + 1 := by omega
        simp [hp]
        exact h1
      · simp [h0]; exact h2
  refine key ns s x hx hn _ fun x ns hx hn => ?_
  clear key
  simp
  have dl : ∀ s x ns, 0 ≤ s → s < 2147483648 → 0 ≤ x → (∀ i ∈ ns, 0 ≤ i) → Pot R (potS s x ns ++ R) := fun s x ns h1 h2 h3 h4 => ⟨s, x, ns, rfl, h1, h2, h3, h4⟩
  split
  · refine ⟨fun _ => ⟨fun _ _ => ?_, hm, hm2⟩, hm⟩
    exact ⟨Int.emod_nonneg _ (by omega), Int.emod_lt_of_pos _ hm, dl _ _ _ hs hs2 (Int.ediv_nonneg hx (by omega)) hn⟩
  · have a1 := Int.emod_nonneg (s * 48271 + 7919) (show (2147483647 : Int) ≠ 0 by decide)
    have a2 := Int.emod_lt_of_pos (s * 48271 + 7919) (show (0 : Int) < 2147483647 by decide)
    generalize (s * 48271 + 7919) % 2147483647 = a at *
    have b1 := Int.emod_nonneg (a * 40692 + 12345) (show (2147483399 : Int) ≠ 0 by decide)
    have b2 := Int.emod_lt_of_pos (a * 40692 + 12345) (show (0 : Int) < 2147483399 by decide)
    generalize (a * 40692 + 12345) % 2147483399 = b at *
    exact ⟨fun _ _ => ⟨fun _ => ⟨Int.emod_nonneg _ (by omega), Int.emod_lt_of_pos _ hm, dl _ _ _ (by omega) (by omega) hx hn⟩, hm⟩, by omega, by omega⟩
def POT (base : Rho) (r : List Vl) (ρ : Rho) (S : Store) : Prop := (∀ x ∈ r, ∃ i : Int, x = .d (.int i)) ∧ ∃ (n : Int) (ns : List Int) (o : Option Vl), 0 ≤ n ∧ n < 2147483648 ∧ ns.length + r.length ≤ 100 ∧ (∀ i ∈ ns, 0 ≤ i) ∧ S = [.lst (ns.map fun i => .d (.int i))] ∧ ρ = base ++ [some (.d (.int n)), some (.loc 0), o]
theorem pot_ok {gl : Str → Option PyData} {T : List (Str × Fd)} {k : Nat} {zs : List Int} (hT : T.lookup ("_law_pot" : Str) = some f_law_pot) (hz : zs.length ≤ 63) :
    Ok (fnAt gl T (k + 1) "_law_pot" [.scr zs, .d (.int 0)] []) (fun v S' => v = .loc 1 ∧ Pot [] S') E0 := by
  rw [ok_fn hT, ok_run]
  refine ⟨rfl, ?_⟩
  unfold f_law_pot
  simp [-List.map_map]
  have hsz : sizeLine = 16777216 := rfl
  have hc := cutL_len zs (some 0) (some 63)
  refine ⟨fun _ => ?_, by omega⟩
  refine ok_for (I := POT [some (Vl.scr zs), some (Vl.d (PyData.int 0))]) (fun x r ρ S h => ?_) (fun ρ S h => ?_) _ _ _ ⟨fun x hx => ?_, 104729, [], none, by decide, by decide, by simp; omega, by simp, rfl, rfl⟩
  · obtain ⟨h1, n, ns, o, n1, n2, hl, hn, rfl, rfl⟩ := h
    obtain ⟨i, rfl⟩ := h1 x (by simp)
    refine ⟨trivial, ?_⟩
    have e1 := Int.emod_nonneg (n * 48271 + i % 2147483629 + 1) (show (2147483647 : Int) ≠ 0 by decide)
    have e2 := Int.emod_lt_of_pos (n * 48271 + i % 2147483629 + 1) (show (0 : Int) < 2147483647 by decide)
    generalize hm : (n * 48271 + i % 2147483629 + 1) % 2147483647 = m at *
    simp only [List.length_cons] at hl
    simp [hm, -List.map_map]
    split
    · refine ⟨?_, isTy_loc rfl⟩
      rw [app_eq rfl (by simp; omega)]
      refine fun _ => ⟨fun y hy => h1 y (by simp [hy]), m, ns ++ [i], _, e1, by omega, by simp; omega, fun j hj => ?_, ?_, rfl⟩
      · rcases List.mem_append.mp hj with hj | hj
        · exact hn j hj
        · rw [List.mem_singleton.mp hj]; omega
      · simp
    · exact ⟨fun y hy => h1 y (by simp [hy]), m, ns, _, e1, by omega, by omega, hn, rfl, rfl⟩
  · obtain ⟨h1, n, ns, o, n1, n2, hl, hn, rfl, rfl⟩ := h
    refine ⟨trivial, ?_⟩
    have h3 : 3 ≤ sizeLine := by decide
    simp [-List.map_map, h3]
    exact ⟨n, 0, ns, rfl, n1, n2, by omega, hn⟩
  · obtain ⟨d, hd, rfl⟩ := List.mem_map.mp hx
    obtain ⟨i, hi, rfl⟩ := List.mem_map.mp hd
    exact ⟨i, rfl⟩
theorem Pot.len {R S : Store} (h : Pot R S) : S.length = R.length + 2 := by
  obtain ⟨s, x, ns, rfl, _⟩ := h
  simp [potS]
theorem Pot.get {R S : Store} {n : Nat} (h : Pot R S) : S[n + 2]? = R[n]? := by
  obtain ⟨s, x, ns, rfl, _⟩ := h
  rfl
theorem Pot.push {R S : Store} (o : Ob) (h : Pot R S) : Pot (R ++ [o]) (S ++ [o]) := by
  obtain ⟨s, x, ns, rfl, h1⟩ := h
  exact ⟨s, x, ns, by simp, h1⟩
theorem Pot.put {R S : Store} {n : Nat} (o : Ob) (h : Pot R S) : Pot (R.set n o) (S.set (n + 2) o) := by
  obtain ⟨s, x, ns, rfl, h1⟩ := h
  exact ⟨s, x, ns, rfl, h1⟩
theorem Pot.last {R S : Store} {o : Ob} (h : Pot (R ++ [o]) S) : S[R.length + 2]? = some o := by
  rw [h.get]; simp
theorem Pot.putLast {R S : Store} {o : Ob} (o' : Ob) (h : Pot (R ++ [o]) S) : Pot (R ++ [o']) (S.set (R.length + 2) o') := by
  have := h.put (n := R.length) o'
  simpa using this
theorem Pot.getM {X Y S : Store} {o : Ob} (h : Pot (X ++ o :: Y) S) : S[X.length + 2]? = some o := by
  rw [h.get]; simp
theorem Pot.putM {X Y S : Store} {o : Ob} (o' : Ob) (h : Pot (X ++ o :: Y) S) : Pot (X ++ o' :: Y) (S.set (X.length + 2) o') := by
  have := h.put (n := X.length) o'
  simpa using this
end DL

namespace DL
open PySem PySem.Spec PyProof.Rows L2
/-! ### further list rules -/
theorem fm_cond {α β : Type} (c : α → Bool) (f : α → β) : ∀ l : List α, l.filterMap (fun p => if c p = true then some (f p) else none) = (l.filter c).map f
  | [] => rfl
  | x :: l => by
    rw [List.filterMap_cons]
    by_cases h : c x = true
    · simp [h, fm_cond c f l]
    · simp [h, fm_cond c f l]
section
variable {S : Store} {E : EX}
theorem comp_sub {α : Type} {ys : List α} {toD : α → Vl} {f : Vl → M (Option Vl)} {g : α → PyData} {J : Store → Prop} {Q : List Vl → Store → Prop} (hl : ys.length ≤ sizeLine)
    (hs : ∀ x ∈ ys, ∀ S, J S → Ok (f (toD x) S) (fun o S' => J S' ∧ (o = none ∨ o = some (.d (g x)))) E) (hJ : J S) (hq : ∀ (zs : List α) S', zs.Sublist ys → J S' → Q ((zs.map g).map .d) S') : Ok (compGo ⟨ys.map toD, none⟩ f (ys.map toD) [] S) Q E := by
  refine ok_comp (I := fun r acc S => J S ∧ ∃ done rest zs : List α, ys = done ++ rest ∧ r = rest.map toD ∧ zs.Sublist done ∧ acc = (zs.map g).map .d) (fun x r acc S h => ?_) (fun acc S h => ?_) _ [] S ⟨hJ, [], ys, [], rfl, rfl, .slnil, rfl⟩
  · obtain ⟨h1, done, rest, zs, e1, e2, h3, rfl⟩ := h
    cases rest with
    | nil => cases e2
    | cons y rest =>
      cases e2
      have hm : y ∈ ys := by rw [e1]; simp
      have hlen : (zs.map g).length + 1 ≤ ys.length := by
        have := h3.length_le
        rw [e1]; simp; omega
      refine ⟨trivial, (hs y hm S h1).imp (fun o S' q => ?_) fun _ _ _ z => z⟩
      obtain ⟨q1, q2⟩ := q
      rcases q2 with rfl | rfl
      · exact ⟨q1, done ++ [y], rest, zs, by rw [e1]; simp, rfl, h3.trans (List.sublist_append_left _ _), rfl⟩
      · refine ⟨by simp at hlen ⊢; omega, q1, done ++ [y], rest, zs ++ [y], by rw [e1]; simp, rfl, h3.append (List.Sublist.refl _), by simp⟩
  · obtain ⟨h1, done, rest, zs, e1, e2, h3, rfl⟩ := h
    cases rest with
    | cons y rest => cases e2
    | nil =>
      rw [List.append_nil] at e1
      subst e1
      exact ⟨trivial, hq zs S h3 h1⟩
/-- a list made while the store changes -/
theorem comp_fmJ {α : Type} {ys : List α} {toD : α → Vl} {f : Vl → M (Option Vl)} {g : α → Option PyData} {J : Store → Prop} {Q : List Vl → Store → Prop} (hl : ys.length ≤ sizeLine)
    (hs : ∀ x ∈ ys, ∀ S, J S → Ok (f (toD x) S) (fun o S' => o = (g x).map .d ∧ J S') E) (hJ : J S) (hq : ∀ S', J S' → Q ((ys.filterMap g).map .d) S') : Ok (compGo ⟨ys.map toD, none⟩ f (ys.map toD) [] S) Q E := by
  refine ok_comp (I := fun r acc S => J S ∧ ∃ done rest : List α, ys = done ++ rest ∧ r = rest.map toD ∧ acc = (done.filterMap g).map .d) (fun x r acc S h => ?_) (fun acc S h => ?_) _ [] S ⟨hJ, [], ys, rfl, rfl, rfl⟩
  · obtain ⟨h1, done, rest, e1, e2, rfl⟩ := h
    cases rest with
    | nil => cases e2
    | cons y rest =>
      cases e2
      have hm : y ∈ ys := by rw [e1]; simp
      have hlen : (done.filterMap g).length + 1 ≤ ys.length := by
        have := List.length_filterMap_le g done
        rw [e1]; simp; omega
      refine ⟨trivial, (hs y hm S h1).imp (fun o S' q => ?_) fun _ _ _ z => z⟩
      obtain ⟨rfl, q1⟩ := q
      cases e : g y with
      | none => exact ⟨q1, done ++ [y], rest, by rw [e1]; simp, rfl, by simp [e]⟩
      | some d =>
        refine ⟨by simp at hlen ⊢; omega, q1, done ++ [y], rest, by rw [e1]; simp, rfl, by simp [e]⟩
  · obtain ⟨h1, done, rest, e1, e2, rfl⟩ := h
    cases rest with
    | cons y rest => cases e2
    | nil =>
      rw [List.append_nil] at e1
      subst e1
      exact ⟨trivial, hq S h1⟩
theorem bin_addlf {xs ys : List PyData} (h : xs.length + ys.length ≤ sizeLine) : binV (.add false) (.d (.list xs)) (.d (.list ys)) S = .ok (.d (.list (xs ++ ys))) S := by
  rw [bin_addl, newL_f, if_pos (by rw [List.length_append]; exact h)]
theorem ok_seq {P : Pg} {s : St} {r : Sts} {ρ : Rho} {Q : Fl → Store → Prop} (J : Rho → Store → Prop) (h1 : Ok (evS P s ρ S) (fun o S' => ∃ ρ', o = .nx ρ' ∧ J ρ' S') E) (h2 : ∀ ρ' S', J ρ' S' → Ok (evSs P r ρ' S') Q E) : Ok (evSs P (.cons s r) ρ S) Q E := by
  rw [ok_ss]
  refine h1.imp (fun o S' ⟨ρ', e, hj⟩ => ?_) fun _ _ _ z => z
  subst e
  exact h2 ρ' S' hj
/-! dicts with tuple keys -/
variable {n : Nat} {kvs : List (NestedKey × Vl)} {x : PyData} {ks : List NestedKey}
theorem dd_get {y : Vl} (h : S[n]? = some (.dd n kvs)) {kk : NestedKey} (hk : dataKey x = some kk) (ht : ∃ ks, kk = .tup ks) (h8 : kk.depth ≤ 8) : mtV (.x .get2) (.loc n) [.d x, y] S = .ok ((lookN kvs kk).getD y) S := by
  obtain ⟨ks, rfl⟩ := ht
  simp only [mtV, mxV, h, hk]
  rw [if_pos ⟨trivial, h8⟩]
theorem dd_isTy (h : S[n]? = some (.dd n kvs)) : isTy S "dict" (.loc n) = true := by
  simp only [isTy, h]
  simp
theorem dd_set {y : Vl} (h : S[n]? = some (.dd n kvs)) {kk : NestedKey} (hk : dataKey x = some kk) (ht : ∃ ks, kk = .tup ks) (h8 : kk.depth ≤ 8) (hl : kvs.length < sizeLine) : setSub (.loc n) (.d x) y S = .ok () (S.set n (.dd n (putN kvs kk y))) := by
  obtain ⟨ks, rfl⟩ := ht
  simp only [setSub, h, hk]
  rw [if_pos ⟨trivial, h8, hl⟩]
theorem dd_notin (h : S[n]? = some (.dd n kvs)) {kk : NestedKey} (hk : dataKey x = some kk) (ht : ∃ ks, kk = .tup ks) (h8 : kk.depth ≤ 8) : cmpV .notin (.d x) (.loc n) S = .ok (.d (.bool (!(lookN kvs kk).isSome))) S := by
  obtain ⟨ks, rfl⟩ := ht
  have e : inD S x n = some (some (lookN kvs (.tup ks)).isSome) := by
    simp only [inD, h, hk]
    rw [if_pos ⟨trivial, h8⟩]
  unfold cmpV
  simp only [e]
  rfl
theorem dd_in (h : S[n]? = some (.dd n kvs)) {kk : NestedKey} (hk : dataKey x = some kk) (ht : ∃ ks, kk = .tup ks) (h8 : kk.depth ≤ 8) : cmpV .isin (.d x) (.loc n) S = .ok (.d (.bool (lookN kvs kk).isSome)) S := by
  obtain ⟨ks, rfl⟩ := ht
  have e : inD S x n = some (some (lookN kvs (.tup ks)).isSome) := by
    simp only [inD, h, hk]
    rw [if_pos ⟨trivial, h8⟩]
  unfold cmpV
  simp only [e]
  rfl
theorem dd_ix (h : S[n]? = some (.dd n kvs)) {kk : NestedKey} (hk : dataKey x = some kk) (ht : ∃ ks, kk = .tup ks) (h8 : kk.depth ≤ 8) : ixV (.loc n) (.d x) S = ofO (lookN kvs kk) S := by
  obtain ⟨ks, rfl⟩ := ht
  simp only [ixV, h, hk]
  rw [if_pos trivial, if_pos h8]
end
theorem lookN_map {kvs : List (NestedKey × Vl)} {k j : NestedKey} {v : Vl} : lookN (kvs.map fun p => if p.1 = k then (p.1, v) else p) j = if k = j then (lookN kvs j).map fun _ => v else lookN kvs j := by
  unfold lookN
  induction kvs with
  | nil => split <;> rfl
  | cons p r ih =>
    rw [List.map_cons]
    by_cases hp : p.1 = j
    · by_cases hk : k = j
      · subst hk
        rw [if_pos hp, if_pos rfl]
        simp [hp]
      · have : ¬ p.1 = k := fun e => hk (e.symm.trans hp)
        rw [if_neg this, if_neg hk]
        simp [hp]
    · have e : (if p.1 = k then (p.1, v) else p).1 = p.1 := by split <;> rfl
      rw [List.find?_cons_of_neg (by rw [e]; simpa using hp), List.find?_cons_of_neg (by simpa using hp)]
      exact ih
theorem lookN_app {kvs : List (NestedKey × Vl)} {k j : NestedKey} {v : Vl} : lookN (kvs ++ [(k, v)]) j = (lookN kvs j).or (if k = j then some v else none) := by
  unfold lookN
  rw [List.find?_append]
  cases h : kvs.find? (fun p => decide (p.1 = j)) with
  | some p => rfl
  | none =>
    by_cases hk : k = j
    · subst hk; simp
    · simp [hk]
theorem lookN_put {kvs : List (NestedKey × Vl)} {k j : NestedKey} {v : Vl} : lookN (putN kvs k v) j = if k = j then some v else lookN kvs j := by
  unfold putN
  by_cases c : (lookN kvs k).isSome = true
  · rw [if_pos c, lookN_map]
    by_cases hk : k = j
    · subst hk
      rw [if_pos rfl, if_pos rfl]
      cases e : lookN kvs k with
      | none => rw [e] at c; cases c
      | some y => rfl
    · rw [if_neg hk, if_neg hk]
  · rw [if_neg c, lookN_app]
    by_cases hk : k = j
    · subst hk
      rw [if_pos rfl, if_pos rfl]
      cases e : lookN kvs k with
      | none => rfl
      | some y => rw [e] at c; exact absurd rfl c
    · rw [if_neg hk, if_neg hk]
      cases lookN kvs j <;> rfl
/-- the keys that there may be -/
def KeysIn (all : List NestedKey) (kvs : List (NestedKey × Vl)) : Prop := (kvs.map (·.1)).Nodup ∧ ∀ k ∈ kvs.map (·.1), k ∈ all
theorem nodup_len {α : Type} [DecidableEq α] : ∀ {l m : List α}, l.Nodup → (∀ x ∈ l, x ∈ m) → l.length ≤ m.length
  | [], _, _, _ => Nat.zero_le _
  | x :: l, m, h, k => by
    obtain ⟨h1, h2⟩ := List.nodup_cons.mp h
    have hx := k x (by simp)
    have := nodup_len (l := l) (m := m.erase x) h2 fun y hy => (List.mem_erase_of_ne (fun e => h1 (by rw [← e]; exact hy))).mpr (k y (by simp [hy]))
    rw [List.length_erase_of_mem hx] at this
    have : 0 < m.length := List.length_pos_of_mem hx
    simp only [List.length_cons]
    omega
theorem KeysIn.len {all : List NestedKey} {kvs : List (NestedKey × Vl)} (h : KeysIn all kvs) : kvs.length ≤ all.length := by
  have := nodup_len h.1 h.2
  rwa [List.length_map] at this
theorem KeysIn.put {all : List NestedKey} {kvs : List (NestedKey × Vl)} (h : KeysIn all kvs) {k : NestedKey} {v : Vl} (hk : k ∈ all) : KeysIn all (putN kvs k v) := by
  unfold putN
  by_cases c : (lookN kvs k).isSome = true
  · rw [if_pos c]
    have e : (kvs.map fun p => if p.1 = k then (p.1, v) else p).map (·.1) = kvs.map (·.1) := by
      rw [List.map_map]
      refine List.map_congr_left fun p _ => ?_
      show (if p.1 = k then (p.1, v) else p).1 = p.1
      split <;> rfl
    unfold KeysIn
    rw [e]
    exact h
  · rw [if_neg c]
    have hn : k ∉ kvs.map (·.1) := fun hm => by
      obtain ⟨p, hp, rfl⟩ := List.mem_map.mp hm
      refine c ?_
      unfold lookN
      cases e : kvs.find? (fun q => decide (q.1 = p.1)) with
      | none => exact absurd (List.find?_eq_none.mp e p hp) (by simp)
      | some q => rfl
    refine ⟨?_, fun j hj => ?_⟩
    · rw [List.map_append, List.nodup_append]
      refine ⟨h.1, by simp, fun a ha b hb e => ?_⟩
      have : b = k := by simpa using hb
      subst this
      subst e
      exact hn ha
    · rw [List.map_append] at hj
      rcases List.mem_append.mp hj with hj | hj
      · exact h.2 j hj
      · have : j = k := by simpa using hj
        rw [this]; exact hk
/-! sorting -/
theorem srt_mem {ds : List PyData} {d : PyData} : d ∈ srtD ds ↔ d ∈ ds := (List.mergeSort_perm _ _).mem_iff
theorem srt_len {ds : List PyData} : (srtD ds).length = ds.length := (List.mergeSort_perm _ _).length_eq
theorem srt_nodup {ds : List PyData} (h : ds.Nodup) : (srtD ds).Nodup := (List.mergeSort_perm _ _).nodup_iff.mpr h
theorem srt_ints {is : List Int} : srtD (is.map .int) = (is.mergeSort fun a b => decide (a ≤ b)).map .int := by
  unfold srtD
  have e := PySem.W.dataLe_int (fun b : Int => b)
  have := PySem.W.sort_maps (r := fun a b : Int => decide (a ≤ b)) (s := PySem.W.dataLe false id) PyData.int (l := is) (fun a _ b _ => by
    have := congrFun (congrFun e a) b
    exact this.symm)
  exact this.symm
theorem int_sorted (is : List Int) : (is.mergeSort fun a b => decide (a ≤ b)).Pairwise fun a b => a ≤ b := by
  have := List.pairwise_mergeSort (le := fun a b : Int => decide (a ≤ b)) (fun a b c h1 h2 => by simp at *; omega) (fun a b => by simp; omega) is
  exact this.imp fun h => by simpa using h
theorem rising_eq {xs ys : List Int} (h1 : xs.Pairwise (· < ·)) (h2 : ys.Pairwise (· < ·)) (h : ∀ i, i ∈ xs ↔ i ∈ ys) : xs = ys := by
  induction xs generalizing ys with
  | nil =>
    cases ys with
    | nil => rfl
    | cons y ys => exact absurd ((h y).mpr (by simp)) (by simp)
  | cons x xs ih =>
    cases ys with
    | nil => exact absurd ((h x).mp (by simp)) (by simp)
    | cons y ys =>
      obtain ⟨a1, a2⟩ := List.pairwise_cons.mp h1
      obtain ⟨b1, b2⟩ := List.pairwise_cons.mp h2
      have e : x = y := by
        rcases List.mem_cons.mp ((h x).mp (by simp)) with e | e
        · exact e
        · rcases List.mem_cons.mp ((h y).mpr (by simp)) with e2 | e2
          · exact e2.symm
          · have := b1 x e; have := a1 y e2; omega
      subst e
      rw [ih a2 b2 fun i => ?_]
      constructor
      · intro hi
        rcases List.mem_cons.mp ((h i).mp (by simp [hi])) with e | e
        · have := a1 i hi; omega
        · exact e
      · intro hi
        rcases List.mem_cons.mp ((h i).mpr (by simp [hi])) with e | e
        · have := b1 i hi; omega
        · exact e
theorem sort_rising {is : List Int} (h : is.Nodup) : (is.mergeSort fun a b => decide (a ≤ b)).Pairwise (· < ·) := by
  have h1 := int_sorted is
  have h2 : (is.mergeSort fun a b => decide (a ≤ b)).Nodup := (List.mergeSort_perm _ _).nodup_iff.mpr h
  generalize is.mergeSort (fun a b => decide (a ≤ b)) = l at *
  have h2 : l.Pairwise (· ≠ ·) := h2
  exact (h1.and h2).imp fun ⟨a, b⟩ => by omega
theorem alike_ints : ∀ (xs ys : List Int), PySem.W.alikeAll (xs.map .int) (ys.map .int) = true
  | [], _ => by rw [List.map_nil, PySem.W.alikeAll]
  | _ :: _, [] => by rw [List.map_nil, List.map_cons, PySem.W.alikeAll]
  | x :: xs, y :: ys => by rw [List.map_cons, List.map_cons, PySem.W.alikeAll, alike_ints xs ys]; rfl
theorem lay_ints : ∀ is : List Int, PyData.canLayAll0 (is.map .int) = true
  | [] => rfl
  | i :: is => by simp only [List.map_cons, PyData.canLayAll0, lay_ints is, PyData.canLay0]; rfl
theorem srtOk_ints {is : List Int} (h : is.length ≤ sizeLine) : SrtOk (is.map .int) := by
  refine ⟨fun d hd e he => ?_, .inr fun d hd => ?_, by rwa [List.length_map], fun d hd => ?_⟩
  · obtain ⟨i, _, rfl⟩ := List.mem_map.mp hd
    obtain ⟨j, _, rfl⟩ := List.mem_map.mp he
    rfl
  · obtain ⟨i, _, rfl⟩ := List.mem_map.mp hd
    exact ⟨(fun z => by cases z), (fun xs z => by cases z)⟩
  · obtain ⟨i, _, rfl⟩ := List.mem_map.mp hd
    simp [PyData.depth]
end DL

namespace DL
open PySem PySem.Spec PyProof.Rows L2
/-! ### stands, arrows, piles -/
def f_stands_over : Fd := ⟨["arrows", "known", "letter"], ["arrows", "known", "letter", "found", "arrow", "target"],
 (.cons (.asg (.tg (.nm 3)) .dnew)
 (.cons (.fr (.nm 4) (.val (.var 0))
 (.cons (.ife (.band (.cmp .eq (.ix (.var 4) (.cst (.int 1))) (.var 2)) (.bi .all (.cons (.comp false [("target", 5)] (.nm 5) (.val (.ix (.var 4) (.cst (.int 2)))) .no (.cmp .isin (.var 5) (.var 1))) .nil)))
 (.cons (.asg (.sub (.var 3) (.ix (.var 4) (.cst (.int 0)))) (.cst (.bool true)))
 .nil)
 .nil)
 .nil))
 (.cons (.ret (.bi .tuple (.cons (.bi (.x (.srt false)) (.cons (.var 3) .nil)) .nil)))
 .nil)))⟩

def f_stands_reading : Fd := ⟨["arrows", "ends", "pile"], ["arrows", "ends", "pile", "known", "letter"],
 (.cons (.asg (.tg (.nm 3)) (.var 1))
 (.cons (.fr (.nm 4) (.rev (.var 2))
 (.cons (.asg (.tg (.nm 3)) (.call true "stands_over" (.cons (.var 0) (.cons (.var 3) (.cons (.var 4) .nil)))))
 .nil))
 (.cons (.ret (.var 3))
 .nil)))⟩

def f_law_some : Fd := ⟨["_law_pot_here", "_law_first", "_law_many"], ["_law_pot_here", "_law_first", "_law_many", "_law_k"],
 (.cons (.ret (.bi .tuple (.cons (.comp false [("_law_k", 3)] (.nm 3) (.rng1 (.var 2)) (.yes (.cmp .eq (.call false "_law_draw" (.cons (.var 0) (.cons (.cst (.int 3)) .nil))) (.cst (.int 0)))) (.bin (.add false) (.var 1) (.var 3))) .nil)))
 .nil)⟩

def f_law_arrows : Fd := ⟨["_law_pot_here", "_law_stands", "_law_letters"], ["_law_pot_here", "_law_stands", "_law_letters", "_law_found", "_law_costs", "_law_k", "_law_one"],
 (.cons (.asg (.tg (.nm 3)) (.lst true .nil))
 (.cons (.asg (.tg (.nm 4)) (.call false "_law_draw" (.cons (.var 0) (.cons (.cst (.int 2)) .nil))))
 (.cons (.fr (.nm 5) (.rng1 (.call false "_law_draw" (.cons (.var 0) (.cons (.cst (.int 13)) .nil))))
 (.cons (.asg (.tg (.nm 6)) (.tup (.cons (.call false "_law_draw" (.cons (.var 0) (.cons (.var 1) .nil))) (.cons (.call false "_law_draw" (.cons (.var 0) (.cons (.var 2) .nil))) (.cons (.call false "_law_some" (.cons (.var 0) (.cons (.cst (.int 0)) (.cons (.var 1) .nil)))) .nil)))))
 (.cons (.ife (.cmp .eq (.var 4) (.cst (.int 1)))
 (.cons (.asg (.tg (.nm 6)) (.bin (.add false) (.var 6) (.tup (.cons (.call false "_law_draw" (.cons (.var 0) (.cons (.cst (.int 12)) .nil))) .nil))))
 .nil)
 .nil)
 (.cons (.ife (.cmp .notin (.var 6) (.var 3))
 (.cons (.expr (.mt .append (.var 3) (.cons (.var 6) .nil)))
 .nil)
 .nil)
 .nil))))
 (.cons (.ret (.bi .tuple (.cons (.bi (.x (.srt false)) (.cons (.var 3) .nil)) .nil)))
 .nil))))⟩

def f_law_table : Fd := ⟨["_law_arrows_here"], ["_law_arrows_here", "_law_found", "_law_arrow"],
 (.cons (.asg (.tg (.nm 1)) .dnewT)
 (.cons (.fr (.nm 2) (.val (.var 0))
 (.cons (.asg (.sub (.var 1) (.sl false (.var 2) .no (.yes (.cst (.int 2))))) (.bin (.add false) (.mt (.x .get2) (.var 1) (.cons (.sl false (.var 2) .no (.yes (.cst (.int 2)))) (.cons (.lst false .nil) .nil))) (.lst false (.cons (.ix (.var 2) (.cst (.int 2))) .nil))))
 .nil))
 (.cons (.ret (.var 1))
 .nil)))⟩

def f_law_reads : Fd := ⟨["_law_table_here", "_law_ends", "_law_stand", "_law_pile", "_law_known"], ["_law_table_here", "_law_ends", "_law_stand", "_law_pile", "_law_known", "_law_key", "_law_found", "_law_targets", "_law_target"],
 (.cons (.asg (.tg (.nm 5)) (.tup (.cons (.var 2) (.cons (.bi .len (.cons (.var 3) .nil)) .nil))))
 (.cons (.ife (.cmp .notin (.var 5) (.var 4))
 (.cons (.asg (.tg (.nm 6)) (.cmp .isin (.var 2) (.var 1)))
 (.cons (.ife (.cmp .gt (.bi .len (.cons (.var 3) .nil)) (.cst (.int 0)))
 (.cons (.asg (.tg (.nm 6)) (.cst (.bool false)))
 (.cons (.fr (.nm 7) (.val (.mt (.x .get2) (.var 0) (.cons (.tup (.cons (.var 2) (.cons (.ix (.var 3) (.cst (.int 0))) .nil))) (.cons (.lst false .nil) .nil))))
 (.cons (.ife (.bnot (.var 6))
 (.cons (.asg (.tg (.nm 6)) (.bi .all (.cons (.comp false [("_law_target", 8)] (.nm 8) (.val (.var 7)) .no (.call false "_law_reads" (.cons (.var 0) (.cons (.var 1) (.cons (.var 8) (.cons (.sl false (.var 3) (.yes (.cst (.int 1))) .no) (.cons (.var 4) .nil))))))) .nil)))
 .nil)
 .nil)
 .nil))
 .nil))
 .nil)
 (.cons (.asg (.sub (.var 4) (.var 5)) (.var 6))
 .nil)))
 .nil)
 (.cons (.ret (.ix (.var 4) (.var 5)))
 .nil)))⟩

def f_law_set : Fd := ⟨["_law_table_here", "_law_ends", "_law_stands", "_law_pile"], ["_law_table_here", "_law_ends", "_law_stands", "_law_pile", "_law_known", "_law_stand"],
 (.cons (.asg (.tg (.nm 4)) .dnewT)
 (.cons (.ret (.bi .tuple (.cons (.comp false [("_law_stand", 5)] (.nm 5) (.rng1 (.var 2)) (.yes (.call false "_law_reads" (.cons (.var 0) (.cons (.var 1) (.cons (.var 5) (.cons (.var 3) (.cons (.var 4) .nil))))))) (.var 5)) .nil)))
 .nil))⟩

def f_law_whole : Fd := ⟨["_law_found"], ["_law_found"],
 (.cons (.ret (.band (.isi (.var 0) "int") (.bnot (.isi (.var 0) "bool"))))
 .nil)⟩

def f_law_is_rising : Fd := ⟨["_law_found"], ["_law_found", "_law_k", "_law_one"],
 (.cons (.ife (.bor (.bnot (.isi (.var 0) "tuple")) (.cmp .isin (.cst (.bool false)) (.comp false [("_law_one", 2)] (.nm 2) (.val (.var 0)) .no (.call true "_law_whole" (.cons (.var 2) .nil)))))
 (.cons (.ret (.cst (.bool false)))
 .nil)
 .nil)
 (.cons (.ret (.bi .all (.cons (.comp false [("_law_k", 1)] (.nm 1) (.rng1 (.bin .sub (.bi .len (.cons (.var 0) .nil)) (.cst (.int 1)))) .no (.cmp .lt (.ix (.var 0) (.var 1)) (.ix (.var 0) (.bin (.add false) (.var 1) (.cst (.int 1)))))) .nil)))
 .nil))⟩


structure Ar where
  q : Int
  l : Int
  ts : List Int
  c : Option Int
def plT (w : List Int) : PyData := .tuple (w.map .int)
def arD (a : Ar) : PyData := .tuple ([.int a.q, .int a.l, plT a.ts] ++ (a.c.map PyData.int).toList)
def arOk (n m : Int) (a : Ar) : Prop := (0 ≤ a.q ∧ a.q < n) ∧ (0 ≤ a.l ∧ a.l < m) ∧ a.ts.length ≤ 1000 ∧ ∀ t ∈ a.ts, 0 ≤ t ∧ t < n
section
variable {gl : Str → Option PyData} {T : List (Str × Fd)} {k : Nat} {R S : Store}
theorem some_ok {n : Int} (hD : T.lookup ("_law_draw" : Str) = some f_pot_draw) (hT : T.lookup ("_law_some" : Str) = some f_law_some) (h : Pot R S) (h0 : 0 ≤ n) (h1 : n ≤ 1000) :
    Ok (fnAt gl T (k + 2) "_law_some" [.loc 1, .d (.int 0), .d (.int n)] S) (fun v S' => ∃ is : List Int, v = .d (plT is) ∧ is.Pairwise (· < ·) ∧ is.length ≤ 1000 ∧ (∀ i ∈ is, 0 ≤ i ∧ i < n) ∧ Pot R S') E0 := by
  have sz := sz_eq
  rw [ok_fn hT, ok_run]
  refine ⟨rfl, ?_⟩
  unfold f_law_some
  simp [-List.map_map]
  refine ⟨fun _ _ => ?_, by omega, by omega⟩
  refine comp_sub (ys := List.range n.toNat) (J := Pot R) (toD := fun i : Nat => Vl.d (.int (i : Int))) (g := fun i : Nat => PyData.int (i : Int)) (by rw [List.length_range]; omega) (fun i hi S hS => ?_) h fun zs S' hz hS' => ?_
  · simp [wipeR, -List.map_map]
    refine (pdraw_ok hD hS (by decide) (by decide)).imp0 fun v S' ⟨r, e, r0, r1, h2⟩ => ?_
    subst e
    by_cases c : r = 0 <;> simp [c, h2]
  · have hl := hz.length_le
    simp at hl
    simp [-List.map_map]
    refine ⟨fun _ => ⟨zs.map fun i : Nat => (i : Int), by simp [plT], ?_, by simp; omega, fun i hi => ?_, hS'⟩, by omega⟩
    · rw [List.pairwise_map]
      have := List.Pairwise.sublist hz (List.pairwise_lt_range (n := n.toNat))
      exact this.imp fun h => by omega
    · obtain ⟨j, hj, rfl⟩ := List.mem_map.mp hi
      have := List.mem_range.mp (hz.subset hj)
      omega
theorem depth_ints : ∀ is : List Int, PyData.depthAll (is.map .int) = 0
  | [] => by simp [PyData.depthAll]
  | i :: is => by simp only [List.map_cons, PyData.depthAll, PyData.depth, depth_ints is]; rfl
theorem depth_ar (a : Ar) : (arD a).depth ≤ 2 := by
  obtain ⟨q, l, ts, c⟩ := a
  cases c <;> simp [arD, plT, PyData.depth, PyData.depthAll, depth_ints]
theorem alike_ar (a b : Ar) : PySem.W.alike (arD a) (arD b) = true := by
  obtain ⟨q, l, ts, c⟩ := a
  obtain ⟨q', l', ts', c'⟩ := b
  cases c <;> cases c' <;> simp [arD, plT, PySem.W.alike, PySem.W.alikeAll, alike_ints]
theorem srtOk_ar {as : List Ar} (h : as.length ≤ sizeLine) : SrtOk (as.map arD) := by
  refine ⟨fun d hd e he => ?_, .inl fun d hd => ?_, by rwa [List.length_map], fun d hd => ?_⟩
  · obtain ⟨a, _, rfl⟩ := List.mem_map.mp hd
    obtain ⟨b, _, rfl⟩ := List.mem_map.mp he
    exact alike_ar a b
  · obtain ⟨a, _, rfl⟩ := List.mem_map.mp hd
    exact ⟨_, rfl⟩
  · obtain ⟨a, _, rfl⟩ := List.mem_map.mp hd
    have := depth_ar a
    omega
theorem srt_loc {ds : List PyData} {n : Nat} (h : S[n]? = some (.lst (ds.map .d))) (ok : SrtOk ds) : biV (.x (.srt false)) [.loc n] S = newL false ((srtD ds).map .d) S := by
  have e : seqD S (.loc n) = some ds := by
    show (rdL S (.loc n)).bind pds = _
    simp only [rdL, h, Option.bind_some, pds_map]
  show bxV (.srt false) (.loc n) S = _
  unfold bxV itemsC
  simp only [e]
  rw [if_pos ok]
def ARR (R : Store) (n m : Int) (base : Rho) (r : List Vl) (ρ : Rho) (S : Store) : Prop := (∀ x ∈ r, ∃ i : Nat, x = .d (.int (i : Int))) ∧ ∃ as : List Ar, as.length + r.length ≤ 12 ∧ (∀ a ∈ as, arOk n m a) ∧ Pot (R ++ [.lst ((as.map arD).map .d)]) S ∧ ∃ o1 o2, ρ = base ++ [o1, o2]
theorem arrows_ok {n m : Int} (hD : T.lookup ("_law_draw" : Str) = some f_pot_draw) (hS : T.lookup ("_law_some" : Str) = some f_law_some) (hT : T.lookup ("_law_arrows" : Str) = some f_law_arrows) (h : Pot R S) (h0 : 0 < n) (h1 : n ≤ 1000) (m0 : 0 < m) (m1 : m ≤ 1000) :
    Ok (fnAt gl T (k + 3) "_law_arrows" [.loc 1, .d (.int n), .d (.int m)] S) (fun v S' => ∃ as : List Ar, v = .d (.tuple (as.map arD)) ∧ as.length ≤ 12 ∧ (∀ a ∈ as, arOk n m a) ∧ ∃ X, Pot (R ++ X) S') E0 := by
  have sz := sz_eq
  have hDk : ∀ {R S m}, Pot R S → 0 < m → m < 1073741824 → Ok (fnAt gl T (k + 2) "_law_draw" [.loc 1, .d (.int m)] S) (fun v S' => ∃ r, v = .d (.int r) ∧ 0 ≤ r ∧ r < m ∧ Pot R S') E0 := fun h h1 h2 => pdraw_ok hD h h1 h2
  rw [ok_fn hT, ok_run]
  refine ⟨rfl, ?_⟩
  unfold f_law_arrows
  simp [-List.map_map, h.len]
  have h := h.push (.lst [])
  refine (hDk h (by decide) (by decide)).imp0 fun v S1 ⟨c, e, c0, c1, h2⟩ => ?_
  subst e
  (try simp [-List.map_map])
  refine (hDk h2 (by decide) (by decide)).imp0 fun v S2 ⟨w, e, w0, w1, h3⟩ => ?_
  subst e
  (try simp [-List.map_map])
  refine ⟨fun _ _ => ?_, by omega, by omega⟩
  refine ok_for (I := ARR R n m [some (Vl.loc 1), some (Vl.d (PyData.int n)), some (Vl.d (PyData.int m)), some (Vl.loc (R.length + 2)), some (Vl.d (PyData.int c))]) (fun x r ρ S h => ?_) (fun ρ S h => ?_) _ _ _ ⟨fun x hx => ?_, [], by simp; omega, by simp, h3, _, _, rfl⟩
  · obtain ⟨hi, as, hl, ha, hS', o1, o2, rfl⟩ := h
    obtain ⟨i, rfl⟩ := hi x (by simp)
    have hi' : ∀ x ∈ r, ∃ i : Nat, x = Vl.d (.int (i : Int)) := fun y hy => hi y (by simp [hy])
    simp only [List.length_cons] at hl
    refine ⟨trivial, ?_⟩
    simp [-List.map_map]
    refine (hDk hS' h0 (by omega)).imp0 fun v S1 ⟨q, e, q0, q1, h2⟩ => ?_
    subst e
    (try simp [-List.map_map])
    refine (hDk h2 m0 (by omega)).imp0 fun v S2 ⟨l, e, l0, l1, h3⟩ => ?_
    subst e
    (try simp [-List.map_map])
    refine (some_ok hD hS h3 (by omega) h1).imp0 fun v S3 ⟨ts, e, ts1, ts2, ts3, h4⟩ => ?_
    subst e
    (try simp [-List.map_map])
    have fin : ∀ (a : Ar) (S4 : Store), arOk n m a → Pot (R ++ [.lst ((as.map arD).map .d)]) S4 → Ok (cmpV Cop.notin (Vl.d (arD a)) (Vl.loc (R.length + 2)) S4) (fun b S' => Ok (toB b S') (fun k S' => if k = true then (isTy S' "list" (Vl.loc (R.length + 2)) = true → Ok (mtV Mt.append (Vl.loc (R.length + 2)) [Vl.d (arD a)] S') (fun _ S' => ARR R n m [some (Vl.loc 1), some (Vl.d (PyData.int n)), some (Vl.d (PyData.int m)), some (Vl.loc (R.length + 2)), some (Vl.d (PyData.int c))] r [some (Vl.loc 1), some (Vl.d (PyData.int n)), some (Vl.d (PyData.int m)), some (Vl.loc (R.length + 2)), some (Vl.d (PyData.int c)), some (Vl.d (PyData.int (i : Int))), some (Vl.d (arD a))] S') fun c fs S' => E0 c fs S') ∧ isTy S' "list" (Vl.loc (R.length + 2)) = true else ARR R n m [some (Vl.loc 1), some (Vl.d (PyData.int n)), some (Vl.d (PyData.int m)), some (Vl.loc (R.length + 2)), some (Vl.d (PyData.int c))] r [some (Vl.loc 1), some (Vl.d (PyData.int n)), some (Vl.d (PyData.int m)), some (Vl.loc (R.length + 2)), some (Vl.d (PyData.int c)), some (Vl.d (PyData.int (i : Int))), some (Vl.d (arD a))] S') fun c fs S' => E0 c fs S') fun c fs S' => E0 c fs S' := by
      intro a S4 ha1 h4
      rw [ni_loc h4.last (by have := depth_ar a; omega)]
      simp [-List.map_map]
      split
      · refine ⟨fun _ => ?_, isTy_loc h4.last⟩
        rw [app_eq h4.last (by simp; omega)]
        refine ⟨hi', as ++ [a], by simp; omega, fun b hb => ?_, ?_, _, _, rfl⟩
        · rcases List.mem_append.mp hb with hb | hb
          · exact ha b hb
          · rw [List.mem_singleton.mp hb]; exact ha1
        · have := h4.putLast (.lst (((as ++ [a]).map arD).map .d))
          simpa using this
      · exact ⟨hi', as, by omega, ha, h4, _, _, rfl⟩
    have okA : ∀ c, arOk n m ⟨q, l, ts, c⟩ := fun c => ⟨⟨q0, q1⟩, ⟨l0, l1⟩, ts2, ts3⟩
    split
    · refine (hDk h4 (by decide) (by decide)).imp0 fun v S4 ⟨z, e, z0, z1, h5⟩ => ?_
      subst e
      have e3 : 3 + 1 ≤ sizeLine := by decide
      simp [-List.map_map, e3]
      exact fin ⟨q, l, ts, some z⟩ S4 (okA _) h5
    · exact fin ⟨q, l, ts, none⟩ S3 (okA _) h4
  · obtain ⟨hi, as, hl, ha, hS', o1, o2, rfl⟩ := h
    refine ⟨trivial, ?_⟩
    have hz : as.length ≤ sizeLine := by omega
    have hz2 : ((srtD (as.map arD)).length) ≤ sizeLine := by rw [srt_len, List.length_map]; exact hz
    simp [-List.map_map, srt_loc hS'.last (srtOk_ar hz), hz2]
    obtain ⟨bs, e, hb⟩ := typed (ds := srtD (as.map arD)) (toD := arD) (q := fun a => a ∈ as) fun d hd => by
      obtain ⟨a, ha, rfl⟩ := List.mem_map.mp (srt_mem.mp hd)
      exact ⟨a, rfl, ha⟩
    refine ⟨bs, by rw [e], ?_, fun b hb' => ha b (hb b hb'), _, hS'⟩
    have := congrArg List.length e
    rw [srt_len, List.length_map, List.length_map] at this
    omega
  · obtain ⟨i, hi, rfl⟩ := List.mem_map.mp hx
    exact ⟨i, rfl⟩
end
end DL

namespace DL
open PySem PySem.Spec PyProof.Rows L2
/-- the arrows of a stand and a letter -/
def atA (as : List Ar) (q l : Int) : List Ar := as.filter fun a => decide (a.q = q) && decide (a.l = l)
def tsDs (as : List Ar) : List PyData := as.map fun a => plT a.ts
def keyA (q l : Int) : NestedKey := .tup [.num q, .num l]
theorem keyA_d (q l : Int) : dataKey (.tuple [.int q, .int l]) = some (keyA q l) := rfl
theorem keyA_8 (q l : Int) : (keyA q l).depth ≤ 8 := by simp [keyA, NestedKey.depth, NestedKey.depthAll]
theorem keyA_t (q l : Int) : ∃ ks, keyA q l = .tup ks := ⟨_, rfl⟩
theorem keyA_inj {q l q' l' : Int} : keyA q l = keyA q' l' ↔ q = q' ∧ l = l' := by simp [keyA]
/-- the table of the arrows as -/
def TabOf (as : List Ar) (kvs : List (NestedKey × Vl)) : Prop := ∀ q l, (lookN kvs (keyA q l)).getD (.d (.list [])) = .d (.list (tsDs (atA as q l)))
section
variable {gl : Str → Option PyData} {T : List (Str × Fd)} {k : Nat} {R S : Store}
theorem tab_put {as : List Ar} {kvs : List (NestedKey × Vl)} (h : TabOf as kvs) (a : Ar) : TabOf (as ++ [a]) (putN kvs (keyA a.q a.l) (.d (.list (tsDs (atA as a.q a.l) ++ [plT a.ts])))) := by
  intro q l
  rw [lookN_put]
  by_cases e : a.q = q ∧ a.l = l
  · obtain ⟨rfl, rfl⟩ := e
    rw [if_pos rfl]
    simp [atA, tsDs]
  · rw [if_neg fun z => e (keyA_inj.mp z), h q l]
    have : (decide (a.q = q) && decide (a.l = l)) = false := by simpa using e
    simp [atA, tsDs, this]
theorem cutL_2 (a : Ar) : cutL ([PyData.int a.q, .int a.l, plT a.ts] ++ (a.c.map PyData.int).toList) none (some 2) = [.int a.q, .int a.l] := by
  obtain ⟨q, l, ts, c⟩ := a
  cases c <;> rfl
theorem ix_ar (a : Ar) (i : Int) : ixV (.d (arD a)) (.d (.int i)) S = ofO ((atI ([PyData.int a.q, .int a.l, plT a.ts] ++ (a.c.map PyData.int).toList) i).map .d) S := rfl
theorem sl_ar (a : Ar) : slV false (.d (arD a)) none (some 2) S = .ok (.d (.tuple [.int a.q, .int a.l])) S := by
  show Rs.ok (Vl.d (.tuple (cutL _ none (some 2)))) S = _
  rw [cutL_2]
def TAB (S0 : Store) (as : List Ar) (r : List Vl) (ρ : Rho) (S : Store) : Prop := ∃ done rest kvs, as = done ++ rest ∧ r = rest.map (fun a => Vl.d (arD a)) ∧ S = S0 ++ [.dd S0.length kvs] ∧ TabOf done kvs ∧ kvs.length ≤ done.length ∧ ∃ o, ρ = [some (.d (.tuple (as.map arD))), some (.loc S0.length), o]
theorem putN_len {kvs : List (NestedKey × Vl)} {k : NestedKey} {v : Vl} : (putN kvs k v).length ≤ kvs.length + 1 := by
  unfold putN
  split <;> simp
theorem table_ok {as : List Ar} (hT : T.lookup ("_law_table" : Str) = some f_law_table) (hl : as.length ≤ 1000) :
    Ok (fnAt gl T (k + 1) "_law_table" [.d (.tuple (as.map arD))] S) (fun v S' => v = .loc S.length ∧ ∃ kvs, S' = S ++ [.dd S.length kvs] ∧ TabOf as kvs) E0 := by
  have sz := sz_eq
  rw [ok_fn hT, ok_run]
  refine ⟨rfl, ?_⟩
  unfold f_law_table
  simp [-List.map_map]
  refine ok_for (I := TAB S as) (fun x r ρ S1 h => ?_) (fun ρ S1 h => ?_) _ _ _ ⟨[], as, [], rfl, by simp, rfl, fun q l => rfl, Nat.le_refl _, none, rfl⟩
  · obtain ⟨done, rest, kvs, e1, e2, rfl, ht, hk, o, rfl⟩ := h
    cases rest with
    | nil => cases e2
    | cons a rest =>
      cases e2
      refine ⟨trivial, ?_⟩
      have hg : (S ++ [Ob.dd S.length kvs])[S.length]? = some (.dd S.length kvs) := by simp
      have hlen : done.length + 1 ≤ as.length := by rw [e1]; simp
      simp [-List.map_map, sl_ar, ix_ar, dd_isTy hg, Mx.ty, Mt.ty]
      have eg := dd_get (y := Vl.d (.list [])) hg (keyA_d a.q a.l) (keyA_t _ _) (keyA_8 _ _)
      have eh : (lookN kvs (keyA a.q a.l)).getD (.d (.list [])) = .d (.list (tsDs (atA done a.q a.l))) := ht a.q a.l
      rw [eh] at eg
      rw [eg]
      have e2 : (tsDs (atA done a.q a.l) ++ [plT a.ts]).length ≤ sizeLine := by
        have := List.length_filter_le (fun b : Ar => decide (b.q = a.q) && decide (b.l = a.l)) done
        simp [tsDs, atA] at this ⊢
        omega
      rw [List.length_append] at e2
      rw [ok_ok, bin_addlf e2, ok_ok, dd_set hg (keyA_d a.q a.l) (keyA_t _ _) (keyA_8 _ _) (by omega)]
      have hp := putN_len (kvs := kvs) (k := keyA a.q a.l) (v := .d (.list (tsDs (atA done a.q a.l) ++ [plT a.ts])))
      refine ⟨done ++ [a], rest, _, by rw [e1]; simp, rfl, ?_, tab_put ht a, by simp; omega, _, rfl⟩
      simp
  · obtain ⟨done, rest, kvs, e1, e2, rfl, ht, hk, o, rfl⟩ := h
    cases rest with
    | cons a rest => cases e2
    | nil =>
      rw [List.append_nil] at e1
      subst e1
      refine ⟨trivial, ?_⟩
      simp [-List.map_map]
      exact ht
end
end DL

namespace DL
open PySem PySem.Spec PyProof.Rows L2
/-- does a stand read a pile -/
def rd (as : List Ar) (ends : List Int) : List Int → Int → Bool
  | [], s => decide (s ∈ ends)
  | l :: p, s => (atA as s l).any fun a => a.ts.all (rd as ends p)
theorem any_eqvI {xs : List Int} {i : Int} : ((xs.map PyData.int).any fun z => PyData.eqv z (.int i)) = decide (i ∈ xs) := by
  induction xs with
  | nil => rfl
  | cons x xs ih =>
    simp only [List.map_cons, List.any_cons, ih, PyData.eqv]
    by_cases h : x = i
    · subst h; simp
    · have h' : ¬ i = x := fun e => h e.symm
      simp [h, h']
def allK (n : Int) (m : Nat) : List NestedKey := (List.range n.toNat).flatMap fun (s : Nat) => (List.range m).map fun (j : Nat) => keyA (s : Int) (j : Int)
theorem allK_mem {n : Int} {m : Nat} {s : Int} {j : Nat} (h0 : 0 ≤ s) (h1 : s < n) (hj : j < m) : keyA s (j : Int) ∈ allK n m := by
  unfold allK
  rw [List.mem_flatMap]
  refine ⟨s.toNat, List.mem_range.mpr (by omega), List.mem_map.mpr ⟨j, List.mem_range.mpr hj, ?_⟩⟩
  rw [Int.toNat_of_nonneg h0]
theorem allK_len {n : Int} {m : Nat} : (allK n m).length = n.toNat * m := by
  unfold allK
  rw [List.length_flatMap]
  simp [List.map_const']
def MemoOk (as : List Ar) (ends p0 : List Int) (kvs : List (NestedKey × Vl)) : Prop := ∀ (s : Int) (p : List Int) (v : Vl), p <:+ p0 → lookN kvs (keyA s (p.length : Int)) = some v → v = .d (.bool (rd as ends p s))
def Memo (as : List Ar) (ends : List Int) (n : Int) (p0 : List Int) (m : Nat) (S0 S : Store) : Prop := ∃ kvs, S = S0.set m (.dd m kvs) ∧ m < S0.length ∧ MemoOk as ends p0 kvs ∧ KeysIn (allK n (p0.length + 1)) kvs
theorem suf_len {p q p0 : List Int} (h : p <:+ p0) (h' : q <:+ p0) (e : p.length = q.length) : p = q := by
  obtain ⟨a, rfl⟩ := h
  obtain ⟨b, hb⟩ := h'
  have : b.length = a.length := by
    have := congrArg List.length hb
    simp at this
    omega
  exact ((List.append_inj hb this).2).symm
theorem Memo.get {as : List Ar} {ends p0 : List Int} {n : Int} {m : Nat} {S0 S : Store} (h : Memo as ends n p0 m S0 S) : ∃ kvs, S[m]? = some (.dd m kvs) ∧ MemoOk as ends p0 kvs ∧ KeysIn (allK n (p0.length + 1)) kvs ∧ ∀ s p, p <:+ p0 → 0 ≤ s → s < n → Memo as ends n p0 m S0 (S.set m (.dd m (putN kvs (keyA s (p.length : Int)) (.d (.bool (rd as ends p s)))))) := by
  obtain ⟨kvs, rfl, hm, h1, h2⟩ := h
  refine ⟨kvs, by rw [List.getElem?_set_self hm], h1, h2, fun s p hp s0 s1 => ⟨_, List.set_set .., hm, fun s' p' v hp' e => ?_, h2.put (allK_mem s0 s1 ?_)⟩⟩
  · rw [lookN_put] at e
    by_cases c : keyA s (p.length : Int) = keyA s' (p'.length : Int)
    · rw [if_pos c] at e
      cases e
      obtain ⟨rfl, e⟩ := keyA_inj.mp c
      rw [suf_len hp hp' (by omega)]
    · rw [if_neg c] at e
      exact h1 s' p' v hp' e
  · have := hp.length_le; omega
theorem Memo.other {as : List Ar} {ends p0 : List Int} {n : Int} {m t : Nat} {S0 S : Store} (h : Memo as ends n p0 m S0 S) (e : t ≠ m) : S[t]? = S0[t]? := by
  obtain ⟨kvs, rfl, _⟩ := h
  exact List.getElem?_set_ne (Ne.symm e)
section
variable {gl : Str → Option PyData} {T : List (Str × Fd)} {k : Nat} {R S : Store}
theorem cutL_tail {α : Type} {x : α} {xs : List α} : cutL (x :: xs) (some 1) none = xs := by
  unfold cutL
  have e : HT.sIx (x :: xs).length 0 (some 1) = 1 := by
    show (if (1 : Int) < 0 then ((1 : Int) + ((x :: xs).length : Int)).toNat else min (1 : Int).toNat (x :: xs).length) = 1
    rw [if_neg (by decide), List.length_cons]
    show min 1 _ = 1
    omega
  have e2 : HT.sIx (x :: xs).length (x :: xs).length none = (xs.length + 1 : Nat) := by
    unfold HT.sIx
    rfl
  simp only [List.length_cons] at *
  rw [e, e2]
  simp
def RDI (as : List Ar) (ends : List Int) (n : Int) (p0 : List Int) (m : Nat) (S0 : Store) (p : List Int) (all : List Ar) (base : Rho) (r : List Vl) (ρ : Rho) (S : Store) : Prop := ∃ done rest, all = done ++ rest ∧ r = (tsDs rest).map .d ∧ Memo as ends n p0 m S0 S ∧ ∃ o1 o2, ρ = base ++ [some (.d (.bool (done.any fun a => a.ts.all (rd as ends p)))), o1, o2]
variable {as : List Ar} {ends p0 : List Int} {n : Int} {m t : Nat} {S0 : Store} {tab : List (NestedKey × Vl)} {p : List Int} {s j : Int}
theorem memo_len {kvs : List (NestedKey × Vl)} (h : KeysIn (allK n (p0.length + 1)) kvs) (hn : n ≤ 1000) (hp0 : p0.length ≤ 1000) : kvs.length < sizeLine := by
  have sz := sz_eq
  have hk := h.len
  rw [allK_len] at hk
  have : n.toNat * (p0.length + 1) ≤ 1000 * 1001 := Nat.mul_le_mul (by omega) (by omega)
  omega
theorem memo_end (hM : Memo as ends n p0 m S0 S) (hn : n ≤ 1000) (hp0 : p0.length ≤ 1000) (hp : p <:+ p0) (hj : j = p.length) (s0 : 0 ≤ s) (s1 : s < n) :
    Ok (setSub (Vl.loc m) (Vl.d (PyData.tuple [PyData.int s, PyData.int j])) (.d (.bool (rd as ends p s))) S) (fun _ S' => Ok (ixV (Vl.loc m) (Vl.d (PyData.tuple [PyData.int s, PyData.int j])) S') (fun a S' => a = Vl.d (PyData.bool (rd as ends p s)) ∧ Memo as ends n p0 m S0 S') fun c fs S' => E0 c fs S') fun c fs S' => E0 c fs S' := by
  subst hj
  obtain ⟨kvs, hg, h1, h2, h3⟩ := hM.get
  rw [dd_set hg (keyA_d s (p.length : Int)) (keyA_t _ _) (keyA_8 _ _) (memo_len h2 hn hp0), ok_ok]
  have h4 := h3 s p hp s0 s1
  obtain ⟨kvs', hg', _⟩ := h4.get
  have hm : m < S.length := (List.getElem?_eq_some_iff.mp hg).1
  rw [dd_ix (List.getElem?_set_self hm) (keyA_d s (p.length : Int)) (keyA_t _ _) (keyA_8 _ _), lookN_put, if_pos rfl]
  simp only [ok_ofO, Option.some.injEq, exists_eq_left']
  exact ⟨trivial, h4⟩
theorem memo_hit {kvs : List (NestedKey × Vl)} (hM : Memo as ends n p0 m S0 S) (hg : S[m]? = some (.dd m kvs)) (hp : p <:+ p0) (hj : j = p.length) (h : (lookN kvs (keyA s j)).isSome = true) :
    Ok (ixV (Vl.loc m) (Vl.d (PyData.tuple [PyData.int s, PyData.int j])) S) (fun a S' => a = Vl.d (PyData.bool (rd as ends p s)) ∧ Memo as ends n p0 m S0 S') fun c fs S' => E0 c fs S' := by
  subst hj
  obtain ⟨kvs', hg', h1, h2, h3⟩ := hM.get
  rw [hg] at hg'
  cases hg'
  obtain ⟨v, e⟩ := Option.isSome_iff_exists.mp h
  rw [dd_ix hg (keyA_d s (p.length : Int)) (keyA_t _ _) (keyA_8 _ _), e]
  simp only [ok_ofO, Option.some.injEq, exists_eq_left']
  exact ⟨h1 s p v hp e, hM⟩
theorem reads_ok (hT : T.lookup ("_law_reads" : Str) = some f_law_reads) (ha : ∀ a ∈ as, ∀ i ∈ a.ts, 0 ≤ i ∧ i < n) (hal : ∀ a ∈ as, a.ts.length ≤ 1000) (htm : t ≠ m) (ht : S0[t]? = some (.dd t tab)) (hto : TabOf as tab) (hn : n ≤ 1000) (hp0 : p0.length ≤ 1000) :
    ∀ (p : List Int) (s : Int) (S : Store) (K : Nat), p <:+ p0 → p.length < K → 0 ≤ s → s < n → Memo as ends n p0 m S0 S →
    Ok (fnAt gl T K "_law_reads" [.loc t, .d (plT ends), .d (.int s), .d (plT p), .loc m] S) (fun v S' => v = .d (.bool (rd as ends p s)) ∧ Memo as ends n p0 m S0 S') E0 := by
  have sz := sz_eq
  intro p
  induction p with
  | nil =>
    intro s S K hp hK s0 s1 hM
    obtain ⟨k, rfl⟩ : ∃ k, K = k + 1 := ⟨K - 1, by omega⟩
    rw [ok_fn hT, ok_run]
    refine ⟨rfl, ?_⟩
    unfold f_law_reads plT
    obtain ⟨kvs, hg, _⟩ := hM.get
    have e1 := dd_notin hg (keyA_d s 0) (keyA_t _ _) (keyA_8 _ _)
    simp [-List.map_map, e1]
    split
    · rw [cmp_inT (by simp [PyData.depth]), any_eqvI, ok_ok]
      exact memo_end (p := []) hM hn hp0 hp rfl s0 s1
    · rename_i h
      exact memo_hit (p := []) hM hg hp rfl (Option.isSome_iff_ne_none.mpr h)
  | cons l p ih =>
    intro s S K hp hK s0 s1 hM
    obtain ⟨k, rfl⟩ : ∃ k, K = k + 1 := ⟨K - 1, by omega⟩
    rw [ok_fn hT, ok_run]
    refine ⟨rfl, ?_⟩
    unfold f_law_reads plT
    obtain ⟨kvs, hg, _⟩ := hM.get
    have hp1 : p <:+ p0 := List.IsSuffix.trans ⟨[l], rfl⟩ hp
    have e1 := dd_notin hg (keyA_d s ((p.length : Int) + 1)) (keyA_t _ _) (keyA_8 _ _)
    simp [-List.map_map, e1]
    split
    · have et : S[t]? = some (.dd t tab) := (hM.other htm).trans ht
      have eg := dd_get (y := Vl.d (.list [])) et (keyA_d s l) (keyA_t _ _) (keyA_8 _ _)
      have eh : (lookN tab (keyA s l)).getD (.d (.list [])) = .d (.list (tsDs (atA as s l))) := hto s l
      rw [eh] at eg
      rw [cmp_inT (by simp [PyData.depth]), ok_ok]
      refine ⟨fun _ => ?_, dd_isTy et⟩
      rw [eg]
      simp only [ok_ok, src_list]
      refine ok_for (I := RDI as ends n p0 m S0 p (atA as s l) [some (.loc t), some (.d (plT ends)), some (.d (.int s)), some (.d (plT (l :: p))), some (.loc m), some (.d (.tuple [.int s, .int ((p.length : Int) + 1)]))]) (fun x r ρ S1 h => ?_) (fun ρ S1 h => ?_) _ _ _ ⟨[], atA as s l, rfl, rfl, hM, none, none, rfl⟩
      · obtain ⟨done, rest, e2, e3, hM1, o1, o2, rfl⟩ := h
        cases rest with
        | nil => cases e3
        | cons a rest =>
          cases e3
          have ham : a ∈ as := by
            have : a ∈ atA as s l := by rw [e2]; simp
            exact (List.mem_filter.mp this).1
          refine ⟨trivial, ?_⟩
          have nxt : ∀ S2 o1 o2, Memo as ends n p0 m S0 S2 → RDI as ends n p0 m S0 p (atA as s l) [some (.loc t), some (.d (plT ends)), some (.d (.int s)), some (.d (plT (l :: p))), some (.loc m), some (.d (.tuple [.int s, .int ((p.length : Int) + 1)]))] ((tsDs rest).map .d) ([some (.loc t), some (.d (plT ends)), some (.d (.int s)), some (.d (plT (l :: p))), some (.loc m), some (.d (.tuple [.int s, .int ((p.length : Int) + 1)])), some (.d (.bool ((done.any fun a => a.ts.all (rd as ends p)) || a.ts.all (rd as ends p)))), o1, o2]) S2 := fun S2 o1 o2 h => ⟨done ++ [a], rest, by rw [e2]; simp, rfl, h, o1, o2, by simp⟩
          generalize hb : (done.any fun a => a.ts.all (rd as ends p)) = b at *
          have hc : cutL ((l :: p).map PyData.int) (some 1) none = p.map PyData.int := by
            rw [cutL_map, cutL_tail]
          simp [-List.map_map]
          cases b with
          | true =>
            have := nxt S1 (some (.d (plT a.ts))) o2 hM1
            simpa [tsDs] using this
          | false =>
            simp only [Bool.false_eq_true, if_false]
            show Ok (srcV (.d (.tuple (a.ts.map .int))) S1) _ _
            simp only [src_tup, ok_ok]
            rw [List.map_map]
            refine comp_fmJ (ys := a.ts) (J := Memo as ends n p0 m S0) (g := fun i => some (.bool (rd as ends p i))) (by have := hal a ham; omega) (fun i hi S2 hM2 => ?_) hM1 fun S2 hM2 => ?_
            · have hi2 := ha a ham i hi
              simp [wipeR, -List.map_map]
              show Ok (slV false (.d (.tuple ((l :: p).map .int))) (some 1) none S2) _ _
              simp only [sl_tup, hc, ok_ok]
              refine (ih i S2 k hp1 (by simp at hK; omega) hi2.1 hi2.2 hM2).imp0 fun v S3 ⟨e, hM3⟩ => ?_
              subst e
              exact ⟨rfl, hM3⟩
            · have e4 : (a.ts.filterMap fun i => some (PyData.bool (rd as ends p i))) = (a.ts.map (rd as ends p)).map .bool := by
                rw [List.filterMap_eq_map', List.map_map]; rfl
              have e5 : ((a.ts.map (rd as ends p)).map PyData.bool).length ≤ sizeLine := by
                have := hal a ham
                simp; omega
              rw [e4, newL_f, if_pos e5, ok_ok, bi_all, ok_ok]
              have := nxt S2 (some (.d (plT a.ts))) o2 hM2
              simpa [List.all_map, tsDs] using this
      · obtain ⟨done, rest, e2, e3, hM1, o1, o2, rfl⟩ := h
        cases rest with
        | cons a rest => cases e3
        | nil =>
          rw [List.append_nil] at e2
          subst e2
          refine ⟨trivial, ?_⟩
          simp [-List.map_map]
          exact memo_end (p := l :: p) hM1 hn hp0 hp (by simp) s0 s1
    · rename_i h
      exact memo_hit (p := l :: p) hM hg hp (by simp) (Option.isSome_iff_ne_none.mpr h)
end
end DL

namespace DL
open PySem PySem.Spec PyProof.Rows L2
/-- the stands for which it holds -/
def stF (n : Int) (f : Int → Bool) : List Int := ((List.range n.toNat).map fun i : Nat => (i : Int)).filter f
theorem stF_mem {n : Int} {f : Int → Bool} {i : Int} : i ∈ stF n f ↔ (0 ≤ i ∧ i < n) ∧ f i = true := by
  unfold stF
  rw [List.mem_filter, List.mem_map]
  constructor
  · rintro ⟨⟨j, hj, rfl⟩, h⟩
    have := List.mem_range.mp hj
    exact ⟨by omega, h⟩
  · rintro ⟨h1, h2⟩
    exact ⟨⟨i.toNat, List.mem_range.mpr (by omega), by omega⟩, h2⟩
theorem stF_rising {n : Int} {f : Int → Bool} : (stF n f).Pairwise (· < ·) := by
  unfold stF
  refine List.Pairwise.filter _ ?_
  rw [List.pairwise_map]
  exact (List.pairwise_lt_range (n := n.toNat)).imp fun h => by omega
def dkI (ks : List Int) : Ob := .dk (ks.map fun i => (Sum.inl i, .d (.bool true)))
section
variable {gl : Str → Option PyData} {T : List (Str × Fd)} {k : Nat} {R S : Store}
variable {as : List Ar} {ends p0 : List Int} {n : Int} {m t : Nat} {S0 : Store} {tab : List (NestedKey × Vl)}
theorem set_ok {pile : List Int} {K : Nat} (hR : T.lookup ("_law_reads" : Str) = some f_law_reads) (hT : T.lookup ("_law_set" : Str) = some f_law_set) (ha : ∀ a ∈ as, ∀ i ∈ a.ts, 0 ≤ i ∧ i < n) (hal : ∀ a ∈ as, a.ts.length ≤ 1000) (ht : S[t]? = some (.dd t tab)) (hto : TabOf as tab) (hn0 : 0 ≤ n) (hn : n ≤ 1000) (hp0 : pile.length ≤ 1000) (hK : pile.length < K) :
    Ok (fnAt gl T (K + 1) "_law_set" [.loc t, .d (plT ends), .d (.int n), .d (plT pile)] S) (fun v S' => v = .d (plT (stF n (rd as ends pile))) ∧ ∃ o, S' = S ++ [o]) E0 := by
  have sz := sz_eq
  rw [ok_fn hT, ok_run]
  refine ⟨rfl, ?_⟩
  unfold f_law_set
  have htl : t < S.length := (List.getElem?_eq_some_iff.mp ht).1
  have htm : t ≠ S.length := Nat.ne_of_lt htl
  have ht' : (S ++ [Ob.dd S.length []])[t]? = some (.dd t tab) := by rw [List.getElem?_append_left htl]; exact ht
  have hM : Memo as ends n pile S.length (S ++ [.dd S.length []]) (S ++ [.dd S.length []]) := ⟨[], by simp, by simp, (fun s p v _ e => by cases e), List.nodup_nil, (fun k h => by cases h)⟩
  simp [-List.map_map]
  refine ⟨fun _ _ => ?_, by omega, by omega⟩
  refine comp_fmJ (ys := List.range n.toNat) (toD := fun i : Nat => Vl.d (.int (i : Int))) (J := Memo as ends n pile S.length (S ++ [.dd S.length []])) (g := fun i : Nat => if rd as ends pile (i : Int) = true then some (.int (i : Int)) else none) (by simp; omega) (fun i hi S2 hM2 => ?_) hM fun S2 hM2 => ?_
  · have hi := List.mem_range.mp hi
    simp [wipeR, -List.map_map]
    refine (reads_ok hR ha hal htm ht' hto hn hp0 pile (i : Int) S2 K (List.suffix_refl _) hK (by omega) (by omega) hM2).imp0 fun v S3 ⟨e, hM3⟩ => ?_
    subst e
    simp [-List.map_map]
    by_cases c : rd as ends pile (i : Int) = true <;> simp [c, hM3]
  · rw [fm_cond (fun i : Nat => rd as ends pile (i : Int)) (fun i : Nat => PyData.int (i : Int))]
    have e1 : ((List.range n.toNat).filter fun i : Nat => rd as ends pile (i : Int)).map (fun i : Nat => PyData.int (i : Int)) = (stF n (rd as ends pile)).map .int := by
      unfold stF
      rw [List.filter_map, List.map_map]
      rfl
    rw [e1]
    have e2 : ((stF n (rd as ends pile)).map PyData.int).length ≤ sizeLine := by
      have := List.length_filter_le (rd as ends pile) ((List.range n.toNat).map fun i : Nat => (i : Int))
      simp [stF] at this ⊢
      omega
    simp [-List.map_map, newL_f, e2]
    obtain ⟨kvs, rfl, _⟩ := hM2
    have e3 : (stF n (rd as ends pile)).length ≤ sizeLine := by rwa [List.length_map] at e2
    simp [e3, plT]
end
end DL

namespace DL
open PySem PySem.Spec PyProof.Rows L2
abbrev tt1 : Int → Key × Vl := fun i => (Sum.inl i, .d (.bool true))
theorem tt_any (q : Int) : ∀ ks : List Int, ((ks.map tt1).any fun kv => decide (kv.1 = Sum.inl q)) = decide (q ∈ ks)
  | [] => rfl
  | a :: ks => by
    rw [List.map_cons, List.any_cons, tt_any q ks]
    by_cases h : a = q
    · subst h; simp
    · have h' : ¬ q = a := fun e => h e.symm
      simp [h, h']
theorem tt_same (q : Int) (ks : List Int) : ((ks.map tt1).map fun kv => if kv.1 = Sum.inl q then (kv.1, Vl.d (.bool true)) else kv) = ks.map tt1 := by
  rw [List.map_map]
  refine List.map_congr_left fun i _ => ?_
  simp
section
variable {gl : Str → Option PyData} {T : List (Str × Fd)} {k : Nat} {R S : Store}
theorem dkI_put {ks : List Int} {n : Nat} {q : Int} (h : S[n]? = some (dkI ks)) (hl : ks.length < sizeLine) : setSub (.loc n) (.d (.int q)) (.d (.bool true)) S = .ok () (S.set n (dkI (if q ∈ ks then ks else ks ++ [q]))) := by
  have h' : S[n]? = some (.dk (ks.map tt1)) := h
  simp only [setSub, h', keyOf]
  rw [if_pos (by rw [List.length_map]; exact hl), tt_any, tt_same]
  by_cases c : q ∈ ks
  · rw [if_pos (by simpa using c), if_pos c]; rfl
  · rw [if_neg (by simpa using c), if_neg c]
    simp [dkI]
theorem dkI_srt {ks : List Int} {n : Nat} (h : S[n]? = some (dkI ks)) (hl : ks.length ≤ sizeLine) : biV (.x (.srt false)) [.loc n] S = .ok (.d (.list ((ks.mergeSort fun a b => decide (a ≤ b)).map .int))) S := by
  have h' : S[n]? = some (.dk (ks.map tt1)) := h
  have e1 : seqD S (.loc n) = none := by
    show (rdL S (.loc n)).bind pds = none
    simp only [rdL, h']
    rfl
  have e2 : keysC S n = some (ks.map PyData.int) := by
    have c : PyData.canLayAll0 (ks.map PyData.int) = true := by
      clear h h' hl e1
      induction ks with
      | nil => rfl
      | cons a ks ih => simp only [List.map_cons, PyData.canLayAll0, ih, PyData.canLay0]; rfl
    have e3 : keysD S n = some (ks.map PyData.int) := by
      simp only [keysD, h', List.map_map]
      rfl
    unfold keysC
    rw [e3]
    show (if PyData.canLayAll0 (ks.map PyData.int) = true then some (ks.map PyData.int) else none) = _
    rw [if_pos c]
  show bxV (.srt false) (.loc n) S = _
  unfold bxV itemsC
  simp only [e1, e2]
  rw [if_pos (srtOk_ints hl), srt_ints, newL_f, if_pos (by rw [List.length_map, (List.mergeSort_perm _ _).length_eq]; exact hl)]
variable {as : List Ar} {known : List Int} {l : Int}
/-- an arrow that comes from known stands with the letter -/
def hits (known : List Int) (l : Int) (a : Ar) : Bool := decide (a.l = l) && a.ts.all fun t => decide (t ∈ known)
def OVR (as : List Ar) (known : List Int) (l : Int) (r : List Vl) (ρ : Rho) (S : Store) : Prop := ∃ done rest ks, as = done ++ rest ∧ r = rest.map (fun a => Vl.d (arD a)) ∧ S = [dkI ks] ∧ ks.Nodup ∧ ks.length ≤ done.length ∧ (∀ i, i ∈ ks ↔ ∃ a ∈ done, a.q = i ∧ hits known l a = true) ∧ ∃ o1 o2, ρ = [some (.d (.tuple (as.map arD))), some (.d (plT known)), some (.d (.int l)), some (.loc 0), o1, o2]
theorem over_ok (hT : T.lookup ("stands_over" : Str) = some f_stands_over) (hal : ∀ a ∈ as, a.ts.length ≤ 1000) (hl : as.length ≤ 1000) :
    Ok (fnAt gl T (k + 1) "stands_over" [.d (.tuple (as.map arD)), .d (plT known), .d (.int l)] []) (fun v _ => ∃ xs : List Int, v = .d (plT xs) ∧ xs.Pairwise (· < ·) ∧ xs.length ≤ as.length ∧ ∀ i, i ∈ xs ↔ ∃ a ∈ as, a.q = i ∧ hits known l a = true) E0 := by
  have sz := sz_eq
  rw [ok_fn hT, ok_run]
  refine ⟨rfl, ?_⟩
  unfold f_stands_over
  simp [-List.map_map]
  refine ok_for (I := OVR as known l) (fun x r ρ S1 h => ?_) (fun ρ S1 h => ?_) _ _ _ ⟨[], as, [], rfl, by simp, rfl, List.nodup_nil, Nat.le_refl _, by simp, none, none, rfl⟩
  · obtain ⟨done, rest, ks, e1, e2, rfl, hnd, hkl, hk, o1, o2, rfl⟩ := h
    cases rest with
    | nil => cases e2
    | cons a rest =>
      cases e2
      refine ⟨trivial, ?_⟩
      have ham : a ∈ as := by rw [e1]; simp
      have hdl : done.length + 1 ≤ as.length := by rw [e1]; simp
      have i1 : ∀ S, ixV (.d (arD a)) (.d (.int 1)) S = .ok (.d (.int a.l)) S := fun S => by rw [ix_ar]; simp; rfl
      have i2 : ∀ S, ixV (.d (arD a)) (.d (.int 2)) S = .ok (.d (plT a.ts)) S := fun S => by rw [ix_ar]; simp; rfl
      have i0 : ∀ S, ixV (.d (arD a)) (.d (.int 0)) S = .ok (.d (.int a.q)) S := fun S => by rw [ix_ar]; simp; rfl
      have no : hits known l a = false → ∀ o, OVR as known l (rest.map (fun a => Vl.d (arD a))) [some (.d (.tuple (as.map arD))), some (.d (plT known)), some (.d (.int l)), some (.loc 0), some (.d (arD a)), o] [dkI ks] := fun hf o => by
        refine ⟨done ++ [a], rest, ks, by rw [e1]; simp, rfl, rfl, hnd, by simp; omega, fun i => ?_, _, _, rfl⟩
        rw [hk i]
        constructor
        · rintro ⟨b, hb, h1, h2⟩
          exact ⟨b, by simp [hb], h1, h2⟩
        · rintro ⟨b, hb, h1, h2⟩
          rcases List.mem_append.mp hb with hb | hb
          · exact ⟨b, hb, h1, h2⟩
          · rw [List.mem_singleton.mp hb, hf] at h2; cases h2
      have yes : hits known l a = true → ∀ o, Ok (setSub (.loc 0) (.d (.int a.q)) (.d (.bool true)) [dkI ks]) (fun _ S' => OVR as known l (rest.map (fun a => Vl.d (arD a))) [some (.d (.tuple (as.map arD))), some (.d (plT known)), some (.d (.int l)), some (.loc 0), some (.d (arD a)), o] S') fun c fs S' => E0 c fs S' := fun hf o => by
        rw [dkI_put (ks := ks) rfl (by omega), ok_ok]
        refine ⟨done ++ [a], rest, _, by rw [e1]; simp, rfl, rfl, ?_, ?_, fun i => ?_, _, _, rfl⟩
        · split
          · exact hnd
          · rename_i c
            rw [List.nodup_append]
            refine ⟨hnd, by simp, fun x hx y hy e => ?_⟩
            rw [List.mem_singleton.mp hy] at e
            exact c (e ▸ hx)
        · split <;> simp <;> omega
        · have : (i ∈ if a.q ∈ ks then ks else ks ++ [a.q]) ↔ i ∈ ks ∨ i = a.q := by
            split
            · rename_i c
              constructor
              · exact .inl
              · rintro (h | rfl)
                · exact h
                · exact c
            · simp
          rw [this, hk i]
          constructor
          · rintro (⟨b, hb, h1, h2⟩ | rfl)
            · exact ⟨b, by simp [hb], h1, h2⟩
            · exact ⟨a, by simp, rfl, hf⟩
          · rintro ⟨b, hb, h1, h2⟩
            rcases List.mem_append.mp hb with hb | hb
            · exact .inl ⟨b, hb, h1, h2⟩
            · rw [List.mem_singleton.mp hb] at h1; exact .inr h1.symm
      simp [-List.map_map, i0, i1, i2]
      refine ⟨fun hl1 => ?_, fun hl1 => no (by simp [hits, hl1]) o2⟩
      show Ok (srcV (.d (.tuple (a.ts.map .int))) _) _ _
      simp only [src_tup, ok_ok]
      rw [List.map_map]
      have hat := hal a ham
      refine comp_fm (ys := a.ts) (g := fun t => some (.bool (decide (t ∈ known)))) (by omega) (fun t _ => ?_) ?_
      · simp [wipeR, -List.map_map]
        show Ok (cmpV .isin (.d (.int t)) (.d (.tuple (known.map .int))) _) _ _
        rw [cmp_inT (by simp [PyData.depth]), any_eqvI]
        exact ⟨rfl, rfl⟩
      · have e4 : (a.ts.filterMap fun t => some (PyData.bool (decide (t ∈ known)))) = (a.ts.map fun t => decide (t ∈ known)).map .bool := by
          rw [List.filterMap_eq_map', List.map_map]; rfl
        have e5 : ((a.ts.map fun t => decide (t ∈ known)).map PyData.bool).length ≤ sizeLine := by simp; omega
        rw [e4, newL_f, if_pos e5, ok_ok, bi_all, ok_ok, toB_eq, ok_ok]
        have eh : ((a.ts.map fun t => decide (t ∈ known)).all id) = hits known l a := by
          simp [hits, hl1, List.all_map]
        rw [eh]
        by_cases c : hits known l a = true
        · rw [if_pos c]; exact yes c o2
        · rw [if_neg c]; exact no (by simpa using c) o2
  · obtain ⟨done, rest, ks, e1, e2, rfl, hnd, hkl, hk, o1, o2, rfl⟩ := h
    cases rest with
    | cons a rest => cases e2
    | nil =>
      rw [List.append_nil] at e1
      subst e1
      refine ⟨trivial, ?_⟩
      have es := dkI_srt (ks := ks) (S := [dkI ks]) (n := 0) rfl (by omega)
      simp [-List.map_map, es]
      refine ⟨_, rfl, sort_rising hnd, by rw [(List.mergeSort_perm _ _).length_eq]; exact hkl, fun i => ?_⟩
      rw [(List.mergeSort_perm _ _).mem_iff, hk i]
/-- the stands that read the pile -/
def Kn (as : List Ar) (ends : List Int) (n : Int) (p xs : List Int) : Prop := xs.Pairwise (· < ·) ∧ ∀ i, i ∈ xs ↔ (0 ≤ i ∧ i < n) ∧ rd as ends p i = true
theorem Kn.eq {ends p xs : List Int} {n : Int} (h : Kn as ends n p xs) : xs = stF n (rd as ends p) := rising_eq h.1 stF_rising fun i => by rw [h.2 i, stF_mem]
theorem Kn.step {ends p xs ys : List Int} {n m l : Int} (h : Kn as ends n p xs) (ha : ∀ a ∈ as, arOk n m a) (h1 : ys.Pairwise (· < ·)) (h2 : ∀ i, i ∈ ys ↔ ∃ a ∈ as, a.q = i ∧ hits xs l a = true) : Kn as ends n (l :: p) ys := by
  have key : ∀ a ∈ as, (a.ts.all fun t => decide (t ∈ xs)) = a.ts.all (rd as ends p) := fun a hm => by
    have hr := (ha a hm).2.2.2
    generalize a.ts = ts at hr
    induction ts with
    | nil => rfl
    | cons t ts ih =>
      rw [List.all_cons, List.all_cons, ih fun i hi => hr i (by simp [hi])]
      have := hr t (by simp)
      have e : decide (t ∈ xs) = rd as ends p t := by
        by_cases c : rd as ends p t = true
        · rw [c]; simpa using (h.2 t).mpr ⟨this, c⟩
        · have : ¬ t ∈ xs := fun z => c ((h.2 t).mp z).2
          simp [this]
          simpa using c
      rw [e]
  refine ⟨h1, fun i => ?_⟩
  rw [h2 i]
  show _ ↔ _ ∧ ((atA as i l).any fun a => a.ts.all (rd as ends p)) = true
  rw [List.any_eq_true]
  constructor
  · rintro ⟨a, hm, rfl, hh⟩
    unfold hits at hh
    rw [key a hm, Bool.and_eq_true] at hh
    exact ⟨(ha a hm).1, a, List.mem_filter.mpr ⟨hm, by simpa using hh.1⟩, hh.2⟩
  · rintro ⟨_, a, hm, hh⟩
    obtain ⟨hm, hq⟩ := List.mem_filter.mp hm
    rw [Bool.and_eq_true] at hq
    have hq1 : a.q = i := by simpa using hq.1
    refine ⟨a, hm, hq1, ?_⟩
    unfold hits
    rw [key a hm, Bool.and_eq_true]
    exact ⟨hq.2, hh⟩
def RNG (as : List Ar) (ends : List Int) (n : Int) (pile : List Int) (r : List Vl) (ρ : Rho) (S : Store) : Prop := ∃ rest p xs, pile = rest ++ p ∧ r = (rest.reverse.map .int).map .d ∧ S = [] ∧ Kn as ends n p xs ∧ xs.length ≤ 1000 ∧ ∃ o, ρ = [some (.d (.tuple (as.map arD))), some (.d (plT ends)), some (.d (plT pile)), some (.d (plT xs)), o]
theorem reading_ok {ends pile : List Int} {n m : Int} (hO : T.lookup ("stands_over" : Str) = some f_stands_over) (hT : T.lookup ("stands_reading" : Str) = some f_stands_reading) (ha : ∀ a ∈ as, arOk n m a) (hl : as.length ≤ 1000) (he : ends.Pairwise (· < ·)) (he2 : ∀ i ∈ ends, 0 ≤ i ∧ i < n) (he3 : ends.length ≤ 1000) (hp : pile.length ≤ 1000) :
    Ok (fnAt gl T (k + 2) "stands_reading" [.d (.tuple (as.map arD)), .d (plT ends), .d (plT pile)] []) (fun v _ => v = .d (plT (stF n (rd as ends pile)))) E0 := by
  have sz := sz_eq
  rw [ok_fn hT, ok_run]
  refine ⟨rfl, ?_⟩
  unfold f_stands_reading
  simp [-List.map_map]
  have er : revV (.d (plT pile)) [] = .ok ⟨(pile.reverse.map .int).map .d, none⟩ [] := by
    show Rs.ok (⟨((pile.map PyData.int).reverse).map Vl.d, none⟩ : Src) [] = _
    rw [List.map_reverse]; simp only [List.map_reverse]
  rw [er, ok_ok]
  refine ok_for (I := RNG as ends n pile) (fun x r ρ S1 h => ?_) (fun ρ S1 h => ?_) _ _ _ ⟨pile, [], ends, by simp, rfl, rfl, ⟨he, fun i => ?_⟩, he3, none, rfl⟩
  · obtain ⟨rest, p, xs, e1, e2, rfl, hk, hxl, o, rfl⟩ := h
    rcases List.eq_nil_or_concat rest with rfl | ⟨rest', l, rfl⟩
    · cases e2
    · rw [List.concat_eq_append] at *
      rw [List.reverse_append] at e2
      cases e2
      refine ⟨trivial, ?_⟩
      simp [-List.map_map]
      refine (over_ok hO (fun a hm => (ha a hm).2.2.1) hl).imp0 fun v S2 ⟨ys, e, h1, hyl, h2⟩ => ?_
      subst e
      refine ⟨_, rfl, rest', l :: p, ys, by rw [e1]; simp, by simp [List.map_reverse], rfl, hk.step ha h1 h2, by omega, _, rfl⟩
  · obtain ⟨rest, p, xs, e1, e2, rfl, hk, hxl, o, rfl⟩ := h
    rcases List.eq_nil_or_concat rest with rfl | ⟨rest', l, rfl⟩
    · rw [List.nil_append] at e1
      subst e1
      refine ⟨trivial, ?_⟩
      simp [-List.map_map]
      rw [hk.eq]
    · rw [List.concat_eq_append, List.reverse_append] at e2
      cases e2
  · constructor
    · intro h; exact ⟨he2 i h, by simpa [rd] using h⟩
    · rintro ⟨_, h⟩; simpa [rd] using h
theorem rising_ok {xs : List Int} (hW : T.lookup ("_law_whole" : Str) = some f_law_whole) (hT : T.lookup ("_law_is_rising" : Str) = some f_law_is_rising) (h : xs.Pairwise (· < ·)) (hl : xs.length ≤ 1000) :
    Ok (fnAt gl T (k + 2) "_law_is_rising" [.d (plT xs)] []) (fun v _ => v = .d (.bool true)) E0 := by
  have sz := sz_eq
  rw [ok_fn hT, ok_run]
  refine ⟨rfl, ?_⟩
  unfold f_law_is_rising plT
  simp [-List.map_map, tyD]
  rw [List.map_map]
  refine comp_fm (ys := xs) (g := fun _ => some (.bool true)) (by omega) (fun i _ => ?_) ?_
  · simp [wipeR, -List.map_map]
    rw [ok_fn (k := k) hW, ok_run]
    refine ⟨rfl, ?_⟩
    unfold f_law_whole
    simp [tyD]
  · have e4 : (xs.filterMap fun _ => some (PyData.bool true)) = List.replicate xs.length (PyData.bool true) := by
      rw [List.filterMap_eq_map', List.map_const']
    have e5 : (List.replicate xs.length (PyData.bool true)).length ≤ sizeLine := by rw [List.length_replicate]; omega
    have e6 : (List.replicate xs.length (PyData.bool true)).any (fun z => PyData.eqv z (.bool false)) = false := by
      rw [List.any_replicate]
      simp [PyData.eqv]
    rw [e4, newL_f, if_pos e5, ok_ok, cmp_inL (by simp [PyData.depth]), e6, ok_ok, toB_eq, ok_ok]
    refine ⟨rfl, fun _ _ => ?_, by omega, by omega⟩
    refine comp_fm (ys := List.range (xs.length - 1)) (g := fun _ => some (.bool true)) (by simp; omega) (fun i hi => ?_) ?_
    · have hi := List.mem_range.mp hi
      obtain ⟨a, ea, ea2⟩ := atI_some (xs := xs) (k := (i : Int)) (by omega) (by omega)
      obtain ⟨b, eb, eb2⟩ := atI_some (xs := xs) (k := (i : Int) + 1) (by omega) (by omega)
      have lt : a < b := by
        have := List.pairwise_iff_getElem.mp h i (i + 1) (by omega) (by omega) (by omega)
        have e1 : xs[i]? = some a := by simpa using ea2
        have e2 : xs[i + 1]? = some b := by
          have : ((i : Int) + 1).toNat = i + 1 := by omega
          rwa [this] at eb2
        rw [List.getElem?_eq_getElem (by omega)] at e1 e2
        cases e1; cases e2
        exact this
      have a1 : atI (xs.map PyData.int) (i : Int) = some (.int a) := by rw [atI_map, ea]; rfl
      have b1 : atI (xs.map PyData.int) ((i : Int) + 1) = some (.int b) := by rw [atI_map, eb]; rfl
      simp [wipeR, -List.map_map, a1, b1, lt]
    · have e7 : ((List.range (xs.length - 1)).filterMap fun _ => some (PyData.bool true)) = (List.replicate (xs.length - 1) true).map PyData.bool := by
        rw [List.filterMap_eq_map', List.map_const', List.map_replicate, List.length_range]
      have e8 : ((List.replicate (xs.length - 1) true).map PyData.bool).length ≤ sizeLine := by rw [List.length_map, List.length_replicate]; omega
      rw [e7, newL_f, if_pos e8, ok_ok, bi_all, ok_ok]
      simp
end
end DL

namespace DL
open PySem PySem.Spec PyProof.Rows L2
/-! ### reads and is_in (the sayings) on data -/
def f_say_reads : Fd := ⟨["arrows", "ends", "stand", "pile"], ["arrows", "ends", "stand", "pile", "reading", "one", "letter", "over", "arrow", "target"],
 (.cons (.asg (.tg (.nm 4)) .dnew)
 (.cons (.fr (.nm 5) (.val (.var 1))
 (.cons (.asg (.sub (.var 4) (.var 5)) (.cst (.bool true)))
 .nil))
 (.cons (.fr (.nm 6) (.rev (.var 3))
 (.cons (.asg (.tg (.nm 7)) .dnew)
 (.cons (.fr (.nm 8) (.val (.var 0))
 (.cons (.ife (.band (.cmp .eq (.ix (.var 8) (.cst (.int 1))) (.var 6)) (.bi .all (.cons (.comp false [("target", 9)] (.nm 9) (.val (.ix (.var 8) (.cst (.int 2)))) .no (.cmp .isin (.var 9) (.var 4))) .nil)))
 (.cons (.asg (.sub (.var 7) (.ix (.var 8) (.cst (.int 0)))) (.cst (.bool true)))
 .nil)
 .nil)
 .nil))
 (.cons (.asg (.tg (.nm 4)) (.var 7))
 .nil))))
 (.cons (.ret (.cmp .isin (.var 2) (.var 4)))
 .nil))))⟩
def f_say_isin : Fd := ⟨["saying", "place", "pile"], ["saying", "place", "pile"],
 (.cons (.ret (.call true "reads" (.cons (.ix (.var 0) (.cst (.int 1))) (.cons (.ix (.var 0) (.cst (.int 2))) (.cons (.var 1) (.cons (.var 2) .nil))))))
 .nil)⟩
section
variable {P : Pg} {gl : Str → Option PyData} {T : List (Str × Fd)} {k : Nat} {R S : Store}
variable {as : List Ar} {ends kn ks p : List Int} {l : Int}
theorem look_tt (i : Int) : ∀ ks : List Int, (lookV (ks.map tt1) (Sum.inl i)).isSome = decide (i ∈ ks)
  | [] => rfl
  | a :: ks => by
    have ih := look_tt i ks
    unfold lookV at ih ⊢
    by_cases h : a = i
    · subst h; simp [tt1]
    · have h' : ¬ i = a := fun e => h e.symm
      rw [List.map_cons, List.find?_cons_of_neg (by simp [tt1, h]), ih]
      simp [h']
theorem dkI_in {n : Nat} {i : Int} (h : S[n]? = some (dkI ks)) : cmpV .isin (.d (.int i)) (.loc n) S = .ok (.d (.bool (decide (i ∈ ks)))) S := by
  have h' : S[n]? = some (.dk (ks.map tt1)) := h
  have e : (lookV (ks.map tt1) (Sum.inl i)).isSome = decide (i ∈ ks) := look_tt i ks
  simp only [cmpV, inD, h', keyOf, Option.map_some, e]
  rfl
theorem rd_step (h1 : ∀ i, i ∈ kn ↔ rd as ends p i = true) (h2 : ∀ i, i ∈ ks ↔ ∃ a ∈ as, a.q = i ∧ hits kn l a = true) (i : Int) : i ∈ ks ↔ rd as ends (l :: p) i = true := by
  rw [h2 i, rd, List.any_eq_true]
  constructor
  · rintro ⟨a, ha, rfl, h⟩
    unfold hits at h
    simp only [Bool.and_eq_true, decide_eq_true_eq, List.all_eq_true] at h
    refine ⟨a, by unfold atA; simp [ha, h.1], ?_⟩
    rw [List.all_eq_true]
    exact fun t ht => (h1 t).mp (h.2 t ht)
  · rintro ⟨a, ha, h⟩
    unfold atA at ha
    simp at ha
    rw [List.all_eq_true] at h
    obtain ⟨b1, b2, b3⟩ := ha
    refine ⟨a, b1, b2, ?_⟩
    unfold hits
    simp only [Bool.and_eq_true, decide_eq_true_eq, List.all_eq_true]
    exact ⟨b3, fun t ht => (h1 t).mpr (h t ht)⟩
def ovW : St := (.fr (.nm 8) (.val (.var 0))
 (.cons (.ife (.band (.cmp .eq (.ix (.var 8) (.cst (.int 1))) (.var 6)) (.bi .all (.cons (.comp false [("target", 9)] (.nm 9) (.val (.ix (.var 8) (.cst (.int 2)))) .no (.cmp .isin (.var 9) (.var 4))) .nil)))
 (.cons (.asg (.sub (.var 7) (.ix (.var 8) (.cst (.int 0)))) (.cst (.bool true)))
 .nil)
 .nil)
 .nil))
def letF (W : St) : Sts := (.cons (.asg (.tg (.nm 7)) .dnew)
 (.cons W
 (.cons (.asg (.tg (.nm 4)) (.var 7))
 .nil)))
def letW (W : St) : St := (.fr (.nm 6) (.rev (.var 3))
 (letF W))
def rrd (as : List Ar) (ends : List Int) (q : Int) (pile : List Int) (m : Nat) (o5 o6 o7 o8 o9 : Option Vl) : Rho := [some (.d (.tuple (as.map arD))), some (.d (plT ends)), some (.d (.int q)), some (.d (plT pile)), some (.loc m), o5, o6, o7, o8, o9]
def OVG (as : List Ar) (ends : List Int) (q : Int) (pile : List Int) (Y : Store) (m : Nat) (kn : List Int) (l : Int) (o5 : Option Vl) (r : List Vl) (ρ : Rho) (S : Store) : Prop := ∃ done rest ks, as = done ++ rest ∧ r = rest.map (fun a => Vl.d (arD a)) ∧ S = Y ++ [dkI ks] ∧ ks.Nodup ∧ ks.length ≤ done.length ∧ (∀ i, i ∈ ks ↔ ∃ a ∈ done, a.q = i ∧ hits kn l a = true) ∧ ∃ o8 o9, ρ = rrd as ends q pile m o5 (some (.d (.int l))) (some (.loc Y.length)) o8 o9
theorem ov_ok {W : St} (hW : W = ovW) {q : Int} {pile : List Int} {Y : Store} {m : Nat} {o5 o8 o9 : Option Vl} (hm : Y[m]? = some (dkI kn)) (hal : ∀ a ∈ as, a.ts.length ≤ 1000) (hl : as.length ≤ 1000) {Q : Fl → Store → Prop} (hq : ∀ ρ S, OVG as ends q pile Y m kn l o5 [] ρ S → Q (.nx ρ) S) :
    Ok (evS P W (rrd as ends q pile m o5 (some (.d (.int l))) (some (.loc Y.length)) o8 o9) (Y ++ [dkI []])) Q E0 := by
  have sz := sz_eq
  subst hW
  unfold ovW rrd
  simp [-List.map_map]
  refine ok_for (I := OVG as ends q pile Y m kn l o5) (fun x r ρ S1 h => ?_) (fun ρ S1 h => ?_) _ _ _ ⟨[], as, [], rfl, by simp, rfl, List.nodup_nil, Nat.le_refl _, by simp, _, _, rfl⟩
  rotate_left
  · exact ⟨trivial, hq _ _ h⟩
  obtain ⟨done, rest, ks, e1, e2, rfl, hnd, hkl, hk, o8, o9, rfl⟩ := h
  cases rest with
  | nil => cases e2
  | cons a rest =>
    cases e2
    refine ⟨trivial, ?_⟩
    have ham : a ∈ as := by rw [e1]; simp
    have hdl : done.length + 1 ≤ as.length := by rw [e1]; simp
    have hmm : ∀ ks, (Y ++ [dkI ks])[m]? = some (dkI kn) := fun ks => by
      rw [List.getElem?_append_left (List.getElem?_eq_some_iff.mp hm).1]; exact hm
    have hn : ∀ ks, (Y ++ [dkI ks])[Y.length]? = some (dkI ks) := fun ks => by simp
    have i1 : ∀ S, ixV (.d (arD a)) (.d (.int 1)) S = .ok (.d (.int a.l)) S := fun S => by rw [ix_ar]; simp; rfl
    have i2 : ∀ S, ixV (.d (arD a)) (.d (.int 2)) S = .ok (.d (plT a.ts)) S := fun S => by rw [ix_ar]; simp; rfl
    have i0 : ∀ S, ixV (.d (arD a)) (.d (.int 0)) S = .ok (.d (.int a.q)) S := fun S => by rw [ix_ar]; simp; rfl
    have no : hits kn l a = false → ∀ o, OVG as ends q pile Y m kn l o5 (rest.map (fun a => Vl.d (arD a))) (rrd as ends q pile m o5 (some (.d (.int l))) (some (.loc Y.length)) (some (.d (arD a))) o) (Y ++ [dkI ks]) := fun hf o => by
      refine ⟨done ++ [a], rest, ks, by rw [e1]; simp, rfl, rfl, hnd, by simp; omega, fun i => ?_, _, _, rfl⟩
      rw [hk i]
      constructor
      · rintro ⟨b, hb, h1, h2⟩
        exact ⟨b, by simp [hb], h1, h2⟩
      · rintro ⟨b, hb, h1, h2⟩
        rcases List.mem_append.mp hb with hb | hb
        · exact ⟨b, hb, h1, h2⟩
        · rw [List.mem_singleton.mp hb, hf] at h2; cases h2
    have yes : hits kn l a = true → ∀ (o : Option Vl) (E : EX), Ok (setSub (.loc Y.length) (.d (.int a.q)) (.d (.bool true)) (Y ++ [dkI ks])) (fun _ S' => OVG as ends q pile Y m kn l o5 (rest.map (fun a => Vl.d (arD a))) (rrd as ends q pile m o5 (some (.d (.int l))) (some (.loc Y.length)) (some (.d (arD a))) o) S') E := fun hf o E => by
      rw [dkI_put (ks := ks) (hn ks) (by omega), ok_ok]
      refine ⟨done ++ [a], rest, (if a.q ∈ ks then ks else ks ++ [a.q]), by rw [e1]; simp, rfl, by simp, ?_, ?_, fun i => ?_, _, _, rfl⟩
      · split
        · exact hnd
        · rename_i c
          rw [List.nodup_append]
          refine ⟨hnd, by simp, fun x hx y hy e => ?_⟩
          rw [List.mem_singleton.mp hy] at e
          exact c (e ▸ hx)
      · split <;> simp <;> omega
      · have : (i ∈ if a.q ∈ ks then ks else ks ++ [a.q]) ↔ i ∈ ks ∨ i = a.q := by
          split
          · rename_i c
            constructor
            · exact .inl
            · rintro (h | rfl)
              · exact h
              · exact c
          · simp
        rw [this, hk i]
        constructor
        · rintro (⟨b, hb, h1, h2⟩ | rfl)
          · exact ⟨b, by simp [hb], h1, h2⟩
          · exact ⟨a, by simp, rfl, hf⟩
        · rintro ⟨b, hb, h1, h2⟩
          rcases List.mem_append.mp hb with hb | hb
          · exact .inl ⟨b, hb, h1, h2⟩
          · rw [List.mem_singleton.mp hb] at h1; exact .inr h1.symm
    unfold rrd at no yes ⊢
    simp [-List.map_map, i0, i1, i2]
    refine ⟨fun hl1 => ?_, fun hl1 => no (by simp [hits, hl1]) o9⟩
    show Ok (srcV (.d (.tuple (a.ts.map .int))) _) _ _
    simp only [src_tup, ok_ok]
    rw [List.map_map]
    have hat := hal a ham
    refine comp_fm (ys := a.ts) (g := fun t => some (.bool (decide (t ∈ kn)))) (by omega) (fun t _ => ?_) ?_
    · simp [wipeR, -List.map_map]
      rw [dkI_in (hmm ks)]
      simp
    · have e4 : (a.ts.filterMap fun t => some (PyData.bool (decide (t ∈ kn)))) = (a.ts.map fun t => decide (t ∈ kn)).map .bool := by
        rw [List.filterMap_eq_map', List.map_map]; rfl
      have e5 : ((a.ts.map fun t => decide (t ∈ kn)).map PyData.bool).length ≤ sizeLine := by simp; omega
      rw [e4, newL_f, if_pos e5, ok_ok, bi_all, ok_ok, toB_eq, ok_ok]
      have eh : ((a.ts.map fun t => decide (t ∈ kn)).all id) = hits kn l a := by
        simp [hits, hl1, List.all_map]
      rw [eh]
      by_cases c : hits kn l a = true
      · rw [if_pos c]; exact yes c o9 _
      · rw [if_neg c]; exact no (by simpa using c) o9
def RDW (as : List Ar) (ends : List Int) (q : Int) (pile : List Int) (r : List Vl) (ρ : Rho) (S : Store) : Prop := ∃ (pre p kn : List Int) (m : Nat), pile = pre ++ p ∧ r = pre.reverse.map (fun i => Vl.d (.int i)) ∧ S[m]? = some (dkI kn) ∧ (∀ i, i ∈ kn ↔ rd as ends p i = true) ∧ ∃ o5 o6 o7 o8 o9, ρ = rrd as ends q pile m o5 o6 o7 o8 o9
theorem let_ok {W : St} (hW : W = ovW) {q : Int} {pile : List Int} {m : Nat} {o5 o6 o7 o8 o9 : Option Vl} (hm : S[m]? = some (dkI kn)) (hk : ∀ i, i ∈ kn ↔ i ∈ ends) (hal : ∀ a ∈ as, a.ts.length ≤ 1000) (hl : as.length ≤ 1000) {Q : Fl → Store → Prop} (hq : ∀ ρ S, RDW as ends q pile [] ρ S → Q (.nx ρ) S) :
    Ok (evS P (letW W) (rrd as ends q pile m o5 o6 o7 o8 o9) S) Q E0 := by
  have sz := sz_eq
  unfold letW rrd
  simp [-List.map_map]
  refine ok_for (I := RDW as ends q pile) (fun x r ρ S1 h => ?_) (fun ρ S1 h => ?_) _ _ _ ⟨pile, [], kn, m, by simp, by simp [plT], hm, fun i => by rw [hk i]; simp [rd], _, _, _, _, _, rfl⟩
  rotate_left
  · exact ⟨trivial, hq _ _ h⟩
  obtain ⟨pre, p, kn, m, e1, e2, hm, hk, o5, o6, o7, o8, o9, rfl⟩ := h
  refine ⟨trivial, ?_⟩
  rcases List.eq_nil_or_concat pre with rfl | ⟨pre, l, rfl⟩
  · cases e2
  · rw [List.concat_eq_append] at e1 e2
    rw [List.reverse_append] at e2
    obtain ⟨rfl, rfl⟩ := List.cons.inj e2
    unfold letF rrd
    simp [-List.map_map]
    have hov := ov_ok (P := P) (l := l) (o5 := o5) (o8 := o8) (o9 := o9) (q := q) (pile := pile) (ends := ends) hW hm hal hl (Q := fun o S' => ∃ ρ, o = .nx ρ ∧ OVG as ends q pile S1 m kn l o5 [] ρ S') (fun ρ S h => ⟨ρ, rfl, h⟩)
    unfold rrd at hov
    refine hov.imp0 fun o S' ⟨ρ, e, done, rest, ks, f1, f2, f3, f4, f5, f6, q8, q9, f7⟩ => ?_
    subst e f7 f3
    cases rest with
    | cons a rest => cases f2
    | nil =>
      rw [List.append_nil] at f1
      subst f1
      simp [rrd]
      refine ⟨pre, l :: p, ks, S1.length, by rw [e1]; simp, by simp, by simp, rd_step hk f6, _, _, _, _, _, rfl⟩
theorem sr_eq : f_say_reads = ⟨["arrows", "ends", "stand", "pile"], ["arrows", "ends", "stand", "pile", "reading", "one", "letter", "over", "arrow", "target"],
 (.cons (.asg (.tg (.nm 4)) .dnew)
 (.cons (.fr (.nm 5) (.val (.var 1))
 (.cons (.asg (.sub (.var 4) (.var 5)) (.cst (.bool true)))
 .nil))
 (.cons (letW ovW)
 (.cons (.ret (.cmp .isin (.var 2) (.var 4)))
 .nil))))⟩ := rfl
def ENW (as : List Ar) (ends : List Int) (q : Int) (pile : List Int) (r : List Vl) (ρ : Rho) (S : Store) : Prop := ∃ done rest ks, ends = done ++ rest ∧ r = rest.map (fun i => Vl.d (.int i)) ∧ S = [dkI ks] ∧ ks.length ≤ done.length ∧ (∀ i, i ∈ ks ↔ i ∈ done) ∧ ∃ o5 o6 o7 o8 o9, ρ = rrd as ends q pile 0 o5 o6 o7 o8 o9
theorem say_reads_ok {q : Int} {pile : List Int} (hT : T.lookup ("reads" : Str) = some f_say_reads) (hal : ∀ a ∈ as, a.ts.length ≤ 1000) (hl : as.length ≤ 1000) (he : ends.length ≤ 1000) :
    Ok (fnAt gl T (k + 1) "reads" [.d (.tuple (as.map arD)), .d (plT ends), .d (.int q), .d (plT pile)] []) (fun v _ => v = .d (.bool (rd as ends pile q))) E0 := by
  have sz := sz_eq
  obtain ⟨W, hW⟩ : ∃ W, W = ovW := ⟨_, rfl⟩
  rw [ok_fn hT, ok_run]
  refine ⟨rfl, ?_⟩
  rw [sr_eq, ← hW]
  refine ok_seq (fun ρ S' => ρ = rrd as ends q pile 0 none none none none none ∧ S' = [dkI []]) ?_ ?_
  · simp [rrd]
    rfl
  rintro ρ S' ⟨rfl, rfl⟩
  refine ok_seq (ENW as ends q pile []) ?_ ?_
  · unfold rrd
    simp [-List.map_map]
    refine ok_for (I := ENW as ends q pile) (fun x r ρ S1 h => ?_) (fun ρ S1 h => ?_) _ _ _ ⟨[], ends, [], by simp, by simp [plT], rfl, by simp, by simp, _, _, _, _, _, rfl⟩
    rotate_left
    · exact ⟨trivial, ρ, rfl, h⟩
    obtain ⟨done, rest, ks, e1, e2, rfl, hl2, hk, o5, o6, o7, o8, o9, rfl⟩ := h
    refine ⟨trivial, ?_⟩
    cases rest with
    | nil => cases e2
    | cons a rest =>
      cases e2
      have hdl : done.length + 1 ≤ ends.length := by rw [e1]; simp
      simp [rrd, -List.map_map]
      rw [dkI_put (ks := ks) rfl (by omega), ok_ok]
      refine ⟨done ++ [a], rest, (if a ∈ ks then ks else ks ++ [a]), by rw [e1]; simp, rfl, rfl, by split <;> simp <;> omega, fun i => ?_, _, _, _, _, _, rfl⟩
      split
      · rename_i c
        rw [hk i]
        simp
        intro e
        rw [e]
        exact (hk a).mp c
      · simp [hk i]
  rintro ρ S' ⟨done, rest, ks, e1, e2, rfl, hl2, hk, o5, o6, o7, o8, o9, rfl⟩
  cases rest with
  | cons a rest => cases e2
  | nil =>
    rw [List.append_nil] at e1
    subst e1
    refine ok_seq (RDW as ends q pile []) (let_ok hW (kn := ks) rfl hk hal hl fun ρ S h => ⟨ρ, rfl, h⟩) ?_
    rintro ρ S' ⟨pre, p, kn, m, e1, e2, hm, hk, o5, o6, o7, o8, o9, rfl⟩
    have hp : pre = [] := by
      have := congrArg List.length e2
      simp at this
      exact List.eq_nil_of_length_eq_zero (by omega)
    subst hp
    simp at e1
    subst e1
    simp [rrd, -List.map_map]
    rw [dkI_in hm]
    simp
    by_cases c : rd as ends pile q = true
    · rw [c]; simpa using (hk q).mpr c
    · have : ¬ q ∈ kn := fun h => c ((hk q).mp h)
      simp [this, c]
theorem say_isin_ok {q n : Int} {pile : List Int} (hT : T.lookup ("is_in" : Str) = some f_say_isin) (hR : T.lookup ("reads" : Str) = some f_say_reads) (hal : ∀ a ∈ as, a.ts.length ≤ 1000) (hl : as.length ≤ 1000) (he : ends.length ≤ 1000) :
    Ok (fnAt gl T (k + 2) "is_in" [.d (.tuple [.int n, .tuple (as.map arD), plT ends]), .d (.int q), .d (plT pile)] []) (fun v _ => v = .d (.bool (rd as ends pile q))) E0 := by
  rw [ok_fn hT, ok_run]
  refine ⟨rfl, ?_⟩
  unfold f_say_isin
  simp [-List.map_map]
  refine (say_reads_ok hR hal hl he).imp0 fun v S' e => ?_
  subst e
  simp
end
end DL

namespace DL
open PySem PySem.Spec PyProof.Rows L2
/-! ### the sets that come up, as a search -/
def subsL : List Int → List (List Int)
  | [] => [[]]
  | x :: xs => subsL xs ++ (subsL xs).map (x :: ·)
theorem subsL_len : ∀ xs : List Int, (subsL xs).length = 2 ^ xs.length
  | [] => rfl
  | x :: xs => by
    simp only [subsL, List.length_append, List.length_map, subsL_len xs, List.length_cons]
    omega
theorem filter_subs (f : Int → Bool) : ∀ xs : List Int, xs.filter f ∈ subsL xs
  | [] => by simp [subsL]
  | x :: xs => by
    have := filter_subs f xs
    by_cases h : f x = true
    · rw [List.filter_cons_of_pos h]
      exact List.mem_append_right _ (List.mem_map.mpr ⟨_, this, rfl⟩)
    · rw [List.filter_cons_of_neg h]
      exact List.mem_append_left _ this
section
variable (Sf : List Int → List Int)
def stepL (p : List Int) (ps : List (List Int)) (l : Nat) : List (List Int) := if Sf ((l : Int) :: p) ∈ ps.map Sf then ps else ps ++ [(l : Int) :: p]
def bfs (m : Nat) : Nat → Nat → List (List Int) → List (List Int)
  | 0, _, ps => ps
  | f + 1, i, ps => match ps[i]? with
    | some p => bfs m f (i + 1) ((List.range m).foldl (stepL Sf p) ps)
    | none => ps
/-- how the search stands -/
structure Bf (m : Nat) (i : Nat) (ps : List (List Int)) : Prop where
  nd : (ps.map Sf).Nodup
  ne : [] ∈ ps
  len : ∀ p ∈ ps, p.length < ps.length
  dn : ∀ (j : Nat) (p : List Int) (l : Nat), j < i → ps[j]? = some p → l < m → Sf ((l : Int) :: p) ∈ ps.map Sf
variable {Sf} {m : Nat}
theorem stepL_pre {p : List Int} {ps : List (List Int)} {l : Nat} : ps <+: stepL Sf p ps l := by
  unfold stepL
  split
  · exact List.prefix_refl _
  · exact List.prefix_append _ _
theorem stepL_has {p : List Int} {ps : List (List Int)} {l : Nat} : Sf ((l : Int) :: p) ∈ (stepL Sf p ps l).map Sf := by
  unfold stepL
  split
  · assumption
  · simp
theorem Bf.mono {i : Nat} {ps qs : List (List Int)} (h : ps <+: qs) {j : Nat} {p : List Int} (e : ps[j]? = some p) : qs[j]? = some p := by
  obtain ⟨t, rfl⟩ := h
  have := (List.getElem?_eq_some_iff.mp e).1
  rw [List.getElem?_append_left this]; exact e
/-- within a turn: the first i are done, and of p the letters of ls -/
structure Bt (Sf : List Int → List Int) (m i : Nat) (p : List Int) (c : Nat) (ps : List (List Int)) : Prop where
  bf : Bf Sf m i ps
  at_ : ps[i]? = some p
  some_ : ∀ l, l < c → Sf ((l : Int) :: p) ∈ ps.map Sf
theorem Bt.step {i : Nat} {p : List Int} {c : Nat} {ps : List (List Int)} (h : Bt Sf m i p c ps) : Bt Sf m i p (c + 1) (stepL Sf p ps c) := by
  have pre : ps <+: stepL Sf p ps c := stepL_pre
  have sub : ∀ {x}, x ∈ ps.map Sf → x ∈ (stepL Sf p ps c).map Sf := fun hx => by
    obtain ⟨q, hq, rfl⟩ := List.mem_map.mp hx
    exact List.mem_map.mpr ⟨q, pre.subset hq, rfl⟩
  have hp : p ∈ ps := List.mem_of_getElem? h.at_
  have ilt : i < ps.length := (List.getElem?_eq_some_iff.mp h.at_).1
  refine ⟨⟨?_, pre.subset h.bf.ne, fun q hq => ?_, fun j q l hj e hl => ?_⟩, Bf.mono (i := i) pre h.at_, fun l hl => ?_⟩
  · unfold stepL
    split
    · exact h.bf.nd
    · rename_i hn
      rw [List.map_append, List.nodup_append]
      refine ⟨h.bf.nd, by simp, fun a ha b hb e => hn ?_⟩
      have : b = Sf ((c : Int) :: p) := by simpa using hb
      rw [← this, ← e]; exact ha
  · unfold stepL at hq ⊢
    split at hq
    · rename_i hy
      rw [if_pos hy]; exact h.bf.len q hq
    · rename_i hy
      rw [if_neg hy, List.length_append, List.length_singleton]
      rcases List.mem_append.mp hq with hq | hq
      · have := h.bf.len q hq; omega
      · rw [List.mem_singleton.mp hq]
        have := h.bf.len p hp
        simp only [List.length_cons]; omega
  · have hlt : j < ps.length := by omega
    have e2 : ps[j]? = some ps[j] := List.getElem?_eq_getElem hlt
    have := Bf.mono (i := i) pre e2
    rw [e] at this
    cases this
    exact sub (h.bf.dn j _ l hj e2 hl)
  · by_cases hc : l = c
    · subst hc; exact stepL_has
    · exact sub (h.some_ l (by omega))
theorem Bt.all {i : Nat} {p : List Int} {ps : List (List Int)} (h : Bf Sf m i ps) (e : ps[i]? = some p) : ∀ c, Bt Sf m i p c ((List.range c).foldl (stepL Sf p) ps)
  | 0 => ⟨h, e, fun l hl => by omega⟩
  | c + 1 => by
    rw [List.range_succ, List.foldl_append]
    exact (Bt.all h e c).step
theorem Bt.next {i : Nat} {p : List Int} {ps : List (List Int)} (h : Bt Sf m i p m ps) : Bf Sf m (i + 1) ps :=
  ⟨h.bf.nd, h.bf.ne, h.bf.len, fun j q l hj e hl => by
    by_cases hji : j = i
    · subst hji
      have := h.at_
      rw [e] at this
      cases this
      exact h.some_ l hl
    · exact h.bf.dn j q l (by omega) e hl⟩
theorem Bf.start : Bf Sf m 0 [[]] := ⟨by simp, by simp, by simp, fun j p l hj => by omega⟩
theorem bfs_ok {N : Nat} (hN : ∀ i ps, Bf Sf m i ps → ps.length ≤ N) : ∀ (f i : Nat) (ps : List (List Int)), Bf Sf m i ps → i + f = N → ∃ j, Bf Sf m j (bfs Sf m f i ps) ∧ (bfs Sf m f i ps).length ≤ j
  | 0, i, ps, h, e => ⟨i, h, by have := hN i ps h; show ps.length ≤ i; omega⟩
  | f + 1, i, ps, h, e => by
    unfold bfs
    cases q : ps[i]? with
    | none => exact ⟨i, h, by rw [List.getElem?_eq_none_iff] at q; exact q⟩
    | some p => exact bfs_ok hN f (i + 1) _ (Bt.all h q m).next (by omega)
/-- every pile's set comes up -/
theorem bfs_all {j : Nat} {ps : List (List Int)} (h : Bf Sf m j ps) (hl : ps.length ≤ j) (hc : ∀ p q l, Sf p = Sf q → Sf (l :: p) = Sf (l :: q)) : ∀ p : List Int, (∀ l ∈ p, 0 ≤ l ∧ l < (m : Int)) → Sf p ∈ ps.map Sf
  | [], _ => List.mem_map.mpr ⟨[], h.ne, rfl⟩
  | l :: p, hp => by
    obtain ⟨q, hq, e⟩ := List.mem_map.mp (bfs_all h hl hc p fun i hi => hp i (by simp [hi]))
    obtain ⟨i, hi, eq⟩ := List.mem_iff_getElem.mp hq
    have hl2 := hp l (by simp)
    have := h.dn i q l.toNat (by omega) (by rw [List.getElem?_eq_getElem hi, eq]) (by omega)
    rw [Int.toNat_of_nonneg hl2.1, hc q p l e] at this
    exact this
end
section
variable {as : List Ar} {ends : List Int} {n : Int} {m : Nat}
abbrev Sof (as : List Ar) (ends : List Int) (n : Int) (p : List Int) : List Int := stF n (rd as ends p)
theorem Sof_bound {i : Nat} {ps : List (List Int)} (h : Bf (Sof as ends n) m i ps) : ps.length ≤ 2 ^ n.toNat := by
  have := nodup_len h.nd (m := subsL ((List.range n.toNat).map fun i : Nat => (i : Int))) fun x hx => by
    obtain ⟨p, _, rfl⟩ := List.mem_map.mp hx
    exact filter_subs _ _
  rw [subsL_len] at this
  simpa using this
theorem Kn.self (p : List Int) : Kn as ends n p (Sof as ends n p) := ⟨stF_rising, fun i => stF_mem⟩
theorem rd_congr (ha : ∀ a ∈ as, ∀ t ∈ a.ts, 0 ≤ t ∧ t < n) {p q : List Int} (h : Sof as ends n p = Sof as ends n q) (l : Int) : Sof as ends n (l :: p) = Sof as ends n (l :: q) := by
  have key : ∀ i, 0 ≤ i ∧ i < n → rd as ends p i = rd as ends q i := fun i hi => by
    have h1 := stF_mem (n := n) (f := rd as ends p) (i := i)
    have h2 := stF_mem (n := n) (f := rd as ends q) (i := i)
    have h : stF n (rd as ends p) = stF n (rd as ends q) := h
    rw [h] at h1
    have := h1.symm.trans h2
    cases e1 : rd as ends p i <;> cases e2 : rd as ends q i <;> simp [e1, e2, hi] at this ⊢
  have : rd as ends (l :: p) = rd as ends (l :: q) := by
    funext s
    show (atA as s l).any _ = (atA as s l).any _
    have ha' : ∀ a ∈ atA as s l, (a.ts.all (rd as ends p)) = (a.ts.all (rd as ends q)) := fun a hm => by
      have hr := ha a (List.mem_filter.mp hm).1
      generalize a.ts = ts at hr
      induction ts with
      | nil => rfl
      | cons t ts ih => rw [List.all_cons, List.all_cons, key t (hr t (by simp)), ih fun i hi => hr i (by simp [hi])]
    generalize atA as s l = l' at ha'
    induction l' with
    | nil => rfl
    | cons a l' ih => rw [List.any_cons, List.any_cons, ha' a (by simp), ih fun b hb => ha' b (by simp [hb])]
  show stF n _ = stF n _
  rw [this]
end
end DL

namespace DL
open PySem PySem.Spec PyProof.Rows L2
/-! ### games made with the pot -/
def f_pot_name : Fd := ⟨["_law_pot_here"], ["_law_pot_here", "_law_letters", "_law_name_here", "_law_k"],
 (.cons (.asg (.tg (.nm 1)) (.cst (.str "abcdefghijklmnopqrstuvwxyz")))
 (.cons (.asg (.tg (.nm 2)) (.mt .join (.cst (.str "")) (.cons (.comp false [("_law_k", 3)] (.nm 3) (.rng1 (.bin (.add false) (.cst (.int 1)) (.call false "_law_draw" (.cons (.var 0) (.cons (.cst (.int 6)) .nil))))) .no (.ix (.var 1) (.call false "_law_draw" (.cons (.var 0) (.cons (.cst (.int 26)) .nil))))) .nil)))
 (.cons (.ife (.cmp .eq (.call false "_law_draw" (.cons (.var 0) (.cons (.cst (.int 6)) .nil))) (.cst (.int 0)))
 (.cons (.asg (.tg (.nm 2)) (.ix (.lst false (.cons (.cst (.str "plac")) (.cons (.cst (.str "places")) (.cons (.cst (.str "lette")) (.cons (.cst (.str "rules")) (.cons (.cst (.str "owns")) (.cons (.cst (.str "arro")) (.cons (.cst (.str "end")) (.cons (.cst (.str "ones")) (.cons (.cst (.str "o")) (.cons (.cst (.str "others")) .nil))))))))))) (.call false "_law_draw" (.cons (.var 0) (.cons (.cst (.int 10)) .nil)))))
 .nil)
 .nil)
 (.cons (.ife (.cmp .isin (.var 2) (.tup (.cons (.cst (.str "place")) (.cons (.cst (.str "letter")) (.cons (.cst (.str "rule")) (.cons (.cst (.str "own")) (.cons (.cst (.str "arrow")) (.cons (.cst (.str "ends")) (.cons (.cst (.str "one")) (.cons (.cst (.str "other")) .nil))))))))))
 (.cons (.asg (.tg (.nm 2)) (.bin (.add false) (.sl false (.var 2) .no (.yes (.cst (.int 5)))) (.cst (.str "q"))))
 .nil)
 .nil)
 (.cons (.ret (.var 2))
 .nil)))))⟩

def f_pot_names : Fd := ⟨["_law_pot_here", "_law_many"], ["_law_pot_here", "_law_many", "_law_letters", "_law_found", "_law_k", "_law_name_here", "_law_spare"],
 (.cons (.asg (.tg (.nm 2)) (.cst (.str "zyxwvutsrqponmlkjihgfedcba")))
 (.cons (.asg (.tg (.nm 3)) (.lst true .nil))
 (.cons (.fr (.nm 4) (.rng1 (.var 1))
 (.cons (.asg (.tg (.nm 5)) (.call false "_law_name" (.cons (.var 0) .nil)))
 (.cons (.asg (.tg (.nm 6)) (.cst (.int 0)))
 (.cons (.whl (.cmp .isin (.var 5) (.var 3))
 (.cons (.asg (.tg (.nm 5)) (.bin .mul (.ix (.var 2) (.bin .mod (.var 6) (.cst (.int 26)))) (.bin (.add false) (.cst (.int 1)) (.bin .fdiv (.var 6) (.cst (.int 26))))))
 (.cons (.asg (.tg (.nm 6)) (.bin (.add false) (.var 6) (.cst (.int 1))))
 .nil)))
 (.cons (.expr (.mt .append (.var 3) (.cons (.var 5) .nil)))
 .nil)))))
 (.cons (.ret (.frz (.var 3)))
 .nil))))⟩

def f_pot_rule : Fd := ⟨["_law_pot_here", "_law_places", "_law_letters", "_law_pushes"], ["_law_pot_here", "_law_places", "_law_letters", "_law_pushes", "_law_wide", "_law_many", "_law_w", "_law_k"],
 (.cons (.asg (.tg (.nm 4)) (.ix (.lst false (.cons (.cst (.int 3)) (.cons (.cst (.int 3)) (.cons (.cst (.int 4)) (.cons (.cst (.int 2)) .nil))))) (.call false "_law_draw" (.cons (.var 0) (.cons (.cst (.int 4)) .nil)))))
 (.cons (.asg (.tg (.nm 5)) (.ix (.lst false (.cons (.cst (.int 0)) (.cons (.cst (.int 1)) (.cons (.cst (.int 2)) (.cons (.cst (.int 2)) .nil))))) (.call false "_law_draw" (.cons (.var 0) (.cons (.var 4) .nil)))))
 (.cons (.ife (.band (.cmp .eq (.var 5) (.cst (.int 2))) (.cmp .lt (.var 3) (.cst (.int 1))))
 (.cons (.asg (.tg (.nm 5)) (.cst (.int 1)))
 .nil)
 .nil)
 (.cons (.asg (.tg (.nm 6)) (.bi .tuple (.cons (.comp false [("_law_k", 7)] (.nm 7) (.rng1 (.var 5)) .no (.call false "_law_draw" (.cons (.var 0) (.cons (.var 2) .nil)))) .nil)))
 (.cons (.ret (.tup (.cons (.call false "_law_draw" (.cons (.var 0) (.cons (.var 1) .nil))) (.cons (.call false "_law_draw" (.cons (.var 0) (.cons (.var 2) .nil))) (.cons (.call false "_law_draw" (.cons (.var 0) (.cons (.var 1) .nil))) (.cons (.var 6) .nil))))))
 .nil)))))⟩

def f_pot_game : Fd := ⟨["_law_pot_here", "_law_most"], ["_law_pot_here", "_law_most", "_law_hands", "_law_letters", "_law_rules", "_law_pushes", "_law_k", "_law_places", "_law_one", "_law_here", "_law_rule_here"],
 (.cons (.asg (.tg (.nm 2)) (.comp false [("_law_k", 6)] (.nm 6) (.rng1 (.bin (.add false) (.cst (.int 1)) (.call false "_law_draw" (.cons (.var 0) (.cons (.cst (.int 3)) .nil))))) .no (.call false "_law_draw" (.cons (.var 0) (.cons (.cst (.int 2)) .nil)))))
 (.cons (.asg (.tg (.nm 3)) (.bin (.add false) (.cst (.int 1)) (.call false "_law_draw" (.cons (.var 0) (.cons (.cst (.int 3)) .nil)))))
 (.cons (.asg (.tg (.nm 4)) (.lst true .nil))
 (.cons (.asg (.tg (.nm 5)) (.cst (.int 2)))
 (.cons (.fr (.nm 6) (.rng1 (.call false "_law_draw" (.cons (.var 0) (.cons (.bin (.add false) (.var 1) (.cst (.int 1))) .nil))))
 (.cons (.asg (.tg (.nm 8)) (.call false "_law_rule" (.cons (.var 0) (.cons (.bi .len (.cons (.var 2) .nil)) (.cons (.var 3) (.cons (.var 5) .nil))))))
 (.cons (.asg (.tg (.nm 9)) (.comp false [("_law_rule_here", 10)] (.nm 10) (.val (.var 4)) (.yes (.cmp .eq (.sl false (.var 10) .no (.yes (.cst (.int 2)))) (.sl false (.var 8) .no (.yes (.cst (.int 2)))))) (.var 10)))
 (.cons (.ife (.band (.cmp .notin (.var 8) (.var 4)) (.bor (.cmp .eq (.ix (.var 2) (.ix (.var 8) (.cst (.int 0)))) (.cst (.int 0))) (.cmp .lt (.bi .len (.cons (.var 9) .nil)) (.cst (.int 2)))))
 (.cons (.expr (.mt .append (.var 4) (.cons (.var 8) .nil)))
 (.cons (.asg (.tg (.nm 5)) (.bin .sub (.var 5) (.bi .int (.cons (.cmp .eq (.bi .len (.cons (.ix (.var 8) (.cst (.int 3))) .nil)) (.cst (.int 2))) .nil))))
 .nil))
 .nil)
 .nil))))
 (.cons (.asg (.tg (.nm 7)) (.zipT (.call false "_law_names" (.cons (.var 0) (.cons (.bi .len (.cons (.var 2) .nil)) .nil))) (.var 2)))
 (.cons (.ret (.tup (.cons (.var 7) (.cons (.bi .tuple (.cons (.call false "_law_names" (.cons (.var 0) (.cons (.var 3) .nil))) .nil)) (.cons (.bi .tuple (.cons (.var 4) .nil)) .nil)))))
 .nil)))))))⟩


section
variable {gl : Str → Option PyData} {T : List (Str × Fd)} {k : Nat} {R S : Store}
theorem pname_ok (hD : T.lookup ("_law_draw" : Str) = some f_pot_draw) (hT : T.lookup ("_law_name" : Str) = some f_pot_name) (h : Pot R S) :
    Ok (fnAt gl T (k + 2) "_law_name" [.loc 1] S) (fun v S' => ∃ z : Str, v = .d (.str z) ∧ nmOk z ∧ Pot R S') E0 := by
  have sz := sz_eq
  have hDk : ∀ {R S m}, Pot R S → 0 < m → m < 1073741824 → Ok (fnAt gl T (k + 1) "_law_draw" [.loc 1, .d (.int m)] S) (fun v S' => ∃ r, v = .d (.int r) ∧ 0 ≤ r ∧ r < m ∧ Pot R S') E0 := fun h h1 h2 => pdraw_ok hD h h1 h2
  have el : ("abcdefghijklmnopqrstuvwxyz" : Str).length ≤ sizeLine := by decide
  have ok1 : PyData.strOk ("abcdefghijklmnopqrstuvwxyz" : Str) = true := by decide +kernel
  rw [ok_fn hT, ok_run]
  refine ⟨rfl, ?_⟩
  unfold f_pot_name
  simp [-List.map_map]
  refine (hDk h (by decide) (by decide)).imp0 fun v S1 ⟨r, e, r0, r1, h2⟩ => ?_
  subst e
  simp [-List.map_map]
  refine ⟨fun _ _ => ?_, by omega, by omega⟩
  refine comp_full (J := Pot R) (p := fun d => ∃ z, d = .str z ∧ z.length ≤ 1 ∧ PyData.strOk z = true) (by simp; rw [sz]; omega) (fun x hx S hS => ?_) h2 fun ds S' hd hlen hS => ?_
  · obtain ⟨i, hi, rfl⟩ := List.mem_map.mp hx
    simp [wipeR]
    refine (hDk hS (by decide) (by decide)).imp0 fun v S' ⟨r, e, r0, r1, hS'⟩ => ?_
    subst e
    obtain ⟨c, e, hc⟩ := atI_mem2 (xs := ("abcdefghijklmnopqrstuvwxyz" : Str).cps.toList) r0 (by exact r1)
    simp [e, el, hS', len_one, strOk_one ok1 hc]
  · obtain ⟨zs, rfl, hz⟩ := typed hd
    have s1 := sum_le fun z hz' => (hz z hz').1
    simp at hlen
    have e0 : (Str.ofString "").length = 0 := rfl
    have hj := join_len (z := (Str.ofString "")) (ys := zs)
    have oj : PyData.strOk (Txt.join (Str.ofString "") zs) = true := strOk_join (by decide +kernel) fun y hy => (hz y hy).2
    have c1 : zs.length ≤ sizeLine := by omega
    have c2 : (zs.map (fun y : Str => y.length)).sum + zs.length * (Str.ofString "").length ≤ 16777216 := by rw [e0]; omega
    rw [e0] at hj
    generalize hcore : Txt.join (Str.ofString "") zs = core at *
    have c3 : core.length ≤ 6 := by omega
    simp [-List.map_map, c1, c2, hcore]
    refine (hDk hS (by decide) (by decide)).imp0 fun v S2 ⟨w, e, w0, w1, h3⟩ => ?_
    subst e
    simp [-List.map_map]
    have eq1 : (Str.ofString "q").length = 1 := rfl
    have okq : PyData.strOk (Str.ofString "q") = true := by decide +kernel
    have cutq : ∀ z : Str, PyData.strOk z = true → z.length ≤ 6 → nmOk (cutS z none (some 5) ++ Str.ofString "q") ∧ (cutS z none (some 5)).length + 1 ≤ sizeLine ∧ z.length ≤ sizeLine := fun z h1 h2 => by
      have := cutS_len (z := z) (lo := none) (hi := some 5)
      exact ⟨⟨strOk_app (strOk_cut h1) okq, by rw [slen_app, eq1]; omega⟩, by omega, by omega⟩
    split
    · refine (hDk h3 (by decide) (by decide)).imp0 fun v S3 ⟨q, e, q0, q1, h4⟩ => ?_
      subst e
      obtain ⟨z, ez, hz2⟩ : ∃ z : Str, atI ([("plac" : Str), "places", "lette", "rules", "owns", "arro", "end", "ones", "o", "others"]) q = some z ∧ (PyData.strOk z = true ∧ z.length ≤ 6) := by
        obtain ⟨z, e, hm⟩ := atI_mem2 (xs := ([("plac" : Str), "places", "lette", "rules", "owns", "arro", "end", "ones", "o", "others"])) q0 (by exact q1)
        refine ⟨z, e, ?_⟩
        simp only [List.mem_cons, List.not_mem_nil, or_false] at hm
        rcases hm with rfl | rfl | rfl | rfl | rfl | rfl | rfl | rfl | rfl | rfl <;> exact ⟨by decide +kernel, by decide⟩
      have e2 : ixV (.d (.list [.str "plac", .str "places", .str "lette", .str "rules", .str "owns", .str "arro", .str "end", .str "ones", .str "o", .str "others"])) (.d (.int q)) S3 = .ok (.d (.str z)) S3 := by
        show ixV (.d (.list (([("plac" : Str), "places", "lette", "rules", "owns", "arro", "end", "ones", "o", "others"]).map .str))) _ _ = _
        rw [ix_list_d, atI_map, ez]; rfl
      rw [e2, ok_ok, cmp_inT (by simp [PyData.depth])]
      obtain ⟨a1, a2, a3⟩ := cutq z hz2.1 hz2.2
      simp only [ok_ok, toB_eq]
      split
      · simp [eq1, a1, a2, a3, h4]
      · exact ⟨z, rfl, ⟨hz2.1, by omega⟩, h4⟩
    · obtain ⟨a1, a2, a3⟩ := cutq core oj c3
      rw [cmp_inT (by simp [PyData.depth])]
      simp only [ok_ok, toB_eq]
      split
      · simp [eq1, a1, a2, a3, h3]
      · exact ⟨⟨oj, by omega⟩, h3⟩
/-- the spare names -/
def spare (j : Nat) : Str := ⟨#[(("zyxwvutsrqponmlkjihgfedcba" : Str).cps.toList.getD j 0)]⟩
theorem spare_inj : ∀ i, i < 11 → ∀ j, j < 11 → spare i = spare j → i = j := by decide +kernel
theorem spare_ok : ∀ i, i < 11 → nmOk (spare i) := by
  have : ∀ i, i < 11 → (PyData.strOk (spare i) = true ∧ (spare i).length ≤ 20) := by decide +kernel
  exact this
theorem spare_at {s : Nat} (h : s < 11) : atI ("zyxwvutsrqponmlkjihgfedcba" : Str).cps.toList (s : Int) = some (("zyxwvutsrqponmlkjihgfedcba" : Str).cps.toList.getD s 0) := by
  have hl : ("zyxwvutsrqponmlkjihgfedcba" : Str).cps.toList.length = 26 := by decide
  obtain ⟨x, e1, e2⟩ := atI_some (xs := ("zyxwvutsrqponmlkjihgfedcba" : Str).cps.toList) (k := (s : Int)) (by omega) (by rw [hl]; omega)
  rw [e1, List.getD_eq_getElem?_getD]
  have : ("zyxwvutsrqponmlkjihgfedcba" : Str).cps.toList[s]? = some x := by simpa using e2
  rw [this]; rfl
theorem spare_few {zs : List Str} {s : Nat} (hs : s ≤ 11) (h : ∀ j, j < s → spare j ∈ zs) : s ≤ zs.length := by
  have nd : ((List.range s).map spare).Nodup := by
    rw [List.Nodup, List.pairwise_map]
    refine (List.pairwise_lt_range (n := s)).imp_of_mem fun {a b} ha hb hab e => ?_
    have := spare_inj a (by have := List.mem_range.mp ha; omega) b (by have := List.mem_range.mp hb; omega) e
    omega
  have := nodup_len nd fun x hx => by
    obtain ⟨j, hj, rfl⟩ := List.mem_map.mp hx
    exact h j (List.mem_range.mp hj)
  simpa using this
theorem in_loc {a : PyData} {n : Nat} {ds : List PyData} (h : S[n]? = some (.lst (ds.map .d))) (ha : a.depth ≤ 64) : cmpV .isin (.d a) (.loc n) S = .ok (.d (.bool (ds.any fun z => PyData.eqv z a))) S := by
  have e := cmp_inL (S := S) (xs := ds) ha
  have hi : inD S a n = none := by unfold inD; rw [h]
  have el : cmpV .isin (.d a) (.loc n) S = cmpO .isin (.d a) (.loc n) S := by
    unfold cmpV
    simp only [hi]
  have er : cmpV .isin (.d a) (.d (.list ds)) S = cmpO .isin (.d a) (.d (.list ds)) S := by
    simp only [cmpV]
  rw [el]
  rw [er] at e
  unfold cmpO at e ⊢
  rw [asD_loc h]
  exact e
theorem spare_loop {n i : Int} {q : Nat} {zs : List Str} {P : Pg} (hg : S[q]? = some (.lst ((zs.map PyData.str).map .d))) (hl : zs.length ≤ 10) {Q : Fl → Store → Prop} (hq : ∀ (z : Str) (o : Option Vl), nmOk z → z ∉ zs → Q (.nx [some (.loc 1), some (.d (.int n)), some (.d (.str "zyxwvutsrqponmlkjihgfedcba")), some (.loc q), some (.d (.int i)), some (.d (.str z)), o]) S) :
    ∀ (d s : Nat) (z : Str), 11 - s = d → s ≤ 11 → nmOk z → (∀ j, j + 1 < s → spare j ∈ zs) → (1 ≤ s → z = spare (s - 1)) →
    Ok (evS P (.whl (.cmp .isin (.var 5) (.var 3)) (.cons (.asg (.tg (.nm 5)) (.bin .mul (.ix (.var 2) (.bin .mod (.var 6) (.cst (.int 26)))) (.bin (.add false) (.cst (.int 1)) (.bin .fdiv (.var 6) (.cst (.int 26)))))) (.cons (.asg (.tg (.nm 6)) (.bin (.add false) (.var 6) (.cst (.int 1)))) .nil)))
      [some (.loc 1), some (.d (.int n)), some (.d (.str "zyxwvutsrqponmlkjihgfedcba")), some (.loc q), some (.d (.int i)), some (.d (.str z)), some (.d (.int (s : Int)))] S) Q E0 := by
  have sz := sz_eq
  intro d
  induction d with
  | zero =>
    intro s z hd hs hz h1 h2
    obtain rfl : s = 11 := by omega
    apply ok_whl
    simp [-List.map_map]
    rw [in_loc hg (by simp [PyData.depth]), any_eqv]
    by_cases c : zs.contains z = true
    · have hzm : z ∈ zs := by simpa using c
      have := spare_few (zs := zs) (s := 11) (by omega) fun j hj => by
        by_cases e : j + 1 < 11
        · exact h1 j e
        · obtain rfl : j = 10 := by omega
          have e : z = spare 10 := h2 (by omega)
          rw [← e]; exact hzm
      omega
    · have c' : zs.contains z = false := by simpa using c
      rw [c']
      simp
      exact hq z _ hz (by simpa using c)
  | succ d ih =>
    intro s z hd hs hz h1 h2
    apply ok_whl
    simp [-List.map_map]
    rw [in_loc hg (by simp [PyData.depth]), any_eqv]
    by_cases c : zs.contains z = true
    · have hzm : z ∈ zs := by simpa using c
      rw [c]
      have e1 : (s : Int) % 26 = s := by omega
      have e2 : (1 : Int) + (s : Int) / 26 = 1 := by omega
      have e3 : ("zyxwvutsrqponmlkjihgfedcba" : Str).length ≤ sizeLine := by decide
      have := ih (s + 1) (spare s) (by omega) (by omega) (spare_ok s (by omega)) (fun j hj => by
        by_cases e : j + 1 < s
        · exact h1 j e
        · obtain rfl : j = s - 1 := by omega
          rw [← h2 (by omega)]; exact hzm) (fun _ => by simp)
      simp [-List.map_map, e1, e2, e3, spare_at (show s < 11 by omega)]
      simpa [spare] using this
    · have c' : zs.contains z = false := by simpa using c
      rw [c']
      simp
      exact hq z _ hz (by simpa using c)
def PNI (R : Store) (n : Int) (r : List Vl) (ρ : Rho) (S : Store) : Prop := (∀ x ∈ r, ∃ i : Nat, x = .d (.int (i : Int))) ∧ ∃ zs : List Str, (zs.length + r.length : Int) = n ∧ (∀ z ∈ zs, nmOk z) ∧ zs.Nodup ∧ Pot (R ++ [.lst ((zs.map PyData.str).map .d)]) S ∧ ∃ o1 o2 o3, ρ = [some (.loc 1), some (.d (.int n)), some (.d (.str "zyxwvutsrqponmlkjihgfedcba")), some (.loc (R.length + 2)), o1, o2, o3]
theorem pnames_ok {n : Int} (hD : T.lookup ("_law_draw" : Str) = some f_pot_draw) (hN : T.lookup ("_law_name" : Str) = some f_pot_name) (hT : T.lookup ("_law_names" : Str) = some f_pot_names) (h : Pot R S) (h0 : 0 ≤ n) (h1 : n ≤ 10) :
    Ok (fnAt gl T (k + 3) "_law_names" [.loc 1, .d (.int n)] S) (fun v S' => ∃ zs : List Str, v = .d (.list (zs.map .str)) ∧ (zs.length : Int) = n ∧ (∀ z ∈ zs, nmOk z) ∧ zs.Nodup ∧ Pot (R ++ [.dead]) S') E0 := by
  have sz := sz_eq
  rw [ok_fn hT, ok_run]
  refine ⟨rfl, ?_⟩
  unfold f_pot_names
  simp [-List.map_map, h.len]
  refine ⟨fun _ _ => ?_, by omega, by omega⟩
  refine ok_for (I := PNI R n) (fun x r ρ S h => ?_) (fun ρ S h => ?_) _ _ _ ⟨fun x hx => ?_, [], by simp; omega, by simp, List.nodup_nil, h.push _, none, none, none, rfl⟩
  · obtain ⟨hi, zs, hl, hz, hnd, hS, o1, o2, o3, rfl⟩ := h
    obtain ⟨i, rfl⟩ := hi x (by simp)
    simp only [List.length_cons] at hl
    refine ⟨trivial, ?_⟩
    simp [-List.map_map]
    refine (pname_ok hD hN hS).imp0 fun v S1 ⟨z, e, hz1, h2⟩ => ?_
    subst e
    (try simp [-List.map_map])
    refine spare_loop h2.last (by omega) (fun z o hz2 hzn => ?_) 11 0 z rfl (by omega) hz1 (fun j hj => by omega) (fun h => by omega)
    simp [-List.map_map, isTy_loc h2.last]
    rw [app_eq h2.last (by simp; omega)]
    refine ⟨fun y hy => hi y (by simp [hy]), zs ++ [z], by simp; omega, fun y hy => ?_, ?_, ?_, _, _, _, rfl⟩
    · rcases List.mem_append.mp hy with h | h
      · exact hz y h
      · rw [List.mem_singleton.mp h]; exact hz2
    · rw [List.nodup_append]
      exact ⟨hnd, by simp, fun a ha b hb e => hzn (by rw [List.mem_singleton.mp hb] at e; rwa [← e])⟩
    · have := h2.putLast (.lst (((zs ++ [z]).map PyData.str).map .d))
      simpa using this
  · obtain ⟨hi, zs, hl, hz, hnd, hS, o1, o2, o3, rfl⟩ := h
    refine ⟨trivial, ?_⟩
    simp [frz_loc hS.last]
    exact ⟨zs, rfl, by simpa using hl, hz, hnd, hS.putLast _⟩
  · obtain ⟨i, hi, rfl⟩ := List.mem_map.mp hx
    exact ⟨i, rfl⟩
theorem prule_ok {P L pu : Int} (hD : T.lookup ("_law_draw" : Str) = some f_pot_draw) (hT : T.lookup ("_law_rule" : Str) = some f_pot_rule) (h : Pot R S) (p0 : 0 < P) (p1 : P < 1073741824) (l0 : 0 < L) (l1 : L < 1073741824) :
    Ok (fnAt gl T (k + 2) "_law_rule" [.loc 1, .d (.int P), .d (.int L), .d (.int pu)] S) (fun v S' => ∃ r : Rl, v = .d (rD r) ∧ rOk P L r ∧ Pot R S') E0 := by
  have sz := sz_eq
  have hDk : ∀ {R S m}, Pot R S → 0 < m → m < 1073741824 → Ok (fnAt gl T (k + 1) "_law_draw" [.loc 1, .d (.int m)] S) (fun v S' => ∃ r, v = .d (.int r) ∧ 0 ≤ r ∧ r < m ∧ Pot R S') E0 := fun h h1 h2 => pdraw_ok hD h h1 h2
  rw [ok_fn hT, ok_run]
  refine ⟨rfl, ?_⟩
  unfold f_pot_rule
  refine ok_seq (fun ρ S => Pot R S ∧ ∃ n : Int, 2 ≤ n ∧ n ≤ 4 ∧ ρ = [some (.loc 1), some (.d (.int P)), some (.d (.int L)), some (.d (.int pu)), some (.d (.int n)), none, none, none]) ?_ fun ρ S2 ⟨h2, n, n0, n4, e⟩ => ?_
  · simp [-List.map_map]
    refine (hDk h (by decide) (by decide)).imp0 fun v S1 ⟨r, e, r0, r1, h2⟩ => ?_
    subst e
    obtain ⟨y, ey, hy⟩ := atI_mem2 (xs := [PyData.int 3, PyData.int 3, PyData.int 4, PyData.int 2]) r0 (by simpa using r1)
    simp [ey]
    refine ⟨h2, ?_⟩
    simp only [List.mem_cons, List.not_mem_nil, or_false] at hy
    rcases hy with rfl | rfl | rfl | rfl <;> exact ⟨_, by decide, by decide, rfl⟩
  subst e
  refine ok_seq (fun ρ S => Pot R S ∧ ∃ m : Int, 0 ≤ m ∧ m ≤ 2 ∧ ρ = [some (.loc 1), some (.d (.int P)), some (.d (.int L)), some (.d (.int pu)), some (.d (.int n)), some (.d (.int m)), none, none]) ?_ fun ρ S3 ⟨h3, m, m0, m2, e⟩ => ?_
  · simp [-List.map_map]
    refine (hDk h2 (by omega) (by omega)).imp0 fun v S1 ⟨r, e, r0, r1, h2⟩ => ?_
    subst e
    obtain ⟨y, ey, hy⟩ := atI_mem2 (xs := [PyData.int 0, PyData.int 1, PyData.int 2, PyData.int 2]) r0 (by simp; omega)
    rw [ix_list_d, ey]
    simp
    refine ⟨h2, ?_⟩
    simp only [List.mem_cons, List.not_mem_nil, or_false] at hy
    rcases hy with rfl | rfl | rfl | rfl <;> exact ⟨_, by decide, by decide, rfl⟩
  subst e
  refine ok_seq (fun ρ S => Pot R S ∧ ∃ m : Int, 0 ≤ m ∧ m ≤ 2 ∧ ρ = [some (.loc 1), some (.d (.int P)), some (.d (.int L)), some (.d (.int pu)), some (.d (.int n)), some (.d (.int m)), none, none]) ?_ fun ρ S4 ⟨h4, m', c0, c2, e⟩ => ?_
  · simp [-List.map_map]
    by_cases h1 : m = 2 <;> by_cases h2 : pu < 1 <;> simp [h1, h2, h3]
    all_goals first | exact ⟨1, by decide, by decide, rfl⟩ | exact ⟨2, by decide, by decide, rfl⟩ | exact ⟨m, m0, m2, rfl⟩ | exact ⟨m0, m2⟩
  subst e
  simp [-List.map_map]
  refine ⟨fun _ _ => ?_, by omega, by omega⟩
  refine comp_full (J := Pot R) (p := fun d => ∃ i : Int, d = .int i ∧ 0 ≤ i ∧ i < L) (by simp; omega) (fun x hx S hS => ?_) h4 fun ds S' hd hlen hS => ?_
  · obtain ⟨i, hi, rfl⟩ := List.mem_map.mp hx
    simp [wipeR]
    refine (hDk hS l0 l1).imp0 fun v S' ⟨r, e, r0, r1, hS'⟩ => ?_
    subst e
    exact ⟨hS', _, rfl, _, rfl, r0, r1⟩
  · obtain ⟨ws, rfl, hw⟩ := typed hd
    simp at hlen
    have c : ws.length ≤ sizeLine := by omega
    simp [-List.map_map, c]
    refine (hDk hS p0 p1).imp0 fun v S3 ⟨p, e, a0, a1, h4⟩ => ?_
    subst e
    (try simp [-List.map_map])
    refine (hDk h4 l0 l1).imp0 fun v S4 ⟨x, e, x0, x1, h5⟩ => ?_
    subst e
    (try simp [-List.map_map])
    refine (hDk h5 p0 p1).imp0 fun v S5 ⟨q, e, q0, q1, h6⟩ => ?_
    subst e
    simp [-List.map_map]
    exact ⟨⟨p, x, q, ws⟩, rfl, ⟨a0, a1, x0, x1, q0, q1, by dsimp only; omega, hw⟩, h6⟩
theorem prule_depth (r : Rl) : (rD r).depth ≤ 64 := by
  simp [rD, PyData.depth, PyData.depthAll, depth_ints]
def PGI (R : Store) (P L most : Int) (base : Rho) (r : List Vl) (ρ : Rho) (S : Store) : Prop := (∀ x ∈ r, ∃ i : Nat, x = .d (.int (i : Int))) ∧ ∃ rs : List Rl, (rs.length + r.length : Int) ≤ most ∧ (∀ u ∈ rs, rOk P L u) ∧ Pot (R ++ [.lst ((rs.map rD).map .d)]) S ∧ ∃ (pu : Int) (o1 o2 o3 o4 o5 : Option Vl), ρ = base ++ [some (.loc (R.length + 2)), some (.d (.int pu)), o1, o2, o3, o4, o5]
theorem pgame_ok {most : Int} (hD : T.lookup ("_law_draw" : Str) = some f_pot_draw) (hR' : T.lookup ("_law_rule" : Str) = some f_pot_rule) (hM : T.lookup ("_law_name" : Str) = some f_pot_name) (hN : T.lookup ("_law_names" : Str) = some f_pot_names) (hT : T.lookup ("_law_game" : Str) = some f_pot_game) (h : Pot R S) (q0 : 0 ≤ most) (q1 : most ≤ 8) :
    Ok (fnAt gl T (k + 4) "_law_game" [.loc 1, .d (.int most)] S) (fun v S' => ∃ g : Gm, v = .d (gD g) ∧ GmOk g ∧ (g.pl.map (·.1)).Nodup ∧ g.lt.Nodup ∧ ∃ X, Pot (R ++ X) S') E0 := by
  have sz := sz_eq
  have hDk : ∀ {R S m}, Pot R S → 0 < m → m < 1073741824 → Ok (fnAt gl T (k + 3) "_law_draw" [.loc 1, .d (.int m)] S) (fun v S' => ∃ r, v = .d (.int r) ∧ 0 ≤ r ∧ r < m ∧ Pot R S') E0 := fun h h1 h2 => pdraw_ok hD h h1 h2
  have hNk : ∀ {R S n}, Pot R S → 0 ≤ n → n ≤ 10 → Ok (fnAt gl T (k + 3) "_law_names" [.loc 1, .d (.int n)] S) (fun v S' => ∃ zs : List Str, v = .d (.list (zs.map .str)) ∧ (zs.length : Int) = n ∧ (∀ z ∈ zs, nmOk z) ∧ zs.Nodup ∧ Pot (R ++ [.dead]) S') E0 := fun h h1 h2 => pnames_ok hD hM hN h h1 h2
  rw [ok_fn hT, ok_run]
  refine ⟨rfl, ?_⟩
  unfold f_pot_game
  refine ok_seq (fun ρ S => Pot R S ∧ ∃ hs : List Int, 1 ≤ hs.length ∧ hs.length ≤ 3 ∧ (∀ i ∈ hs, 0 ≤ i ∧ i < 2) ∧ ρ = [some (.loc 1), some (.d (.int most)), some (.d (.list (hs.map .int))), none, none, none, none, none, none, none, none]) ?_ fun ρ S2 ⟨h2, hs, a1, a3, ah, e⟩ => ?_
  · simp [-List.map_map]
    refine (hDk h (by decide) (by decide)).imp0 fun v S1 ⟨w, e, w0, w1, h2⟩ => ?_
    subst e
    simp [-List.map_map]
    refine ⟨fun _ _ => ?_, by omega, by omega⟩
    refine comp_full (J := Pot R) (p := fun d => ∃ i : Int, d = .int i ∧ 0 ≤ i ∧ i < 2) (by simp; omega) (fun x hx S hS => ?_) h2 fun ds S' hd hlen hS => ?_
    · obtain ⟨i, hi, rfl⟩ := List.mem_map.mp hx
      simp [wipeR]
      refine (hDk hS (by decide) (by decide)).imp0 fun v S' ⟨r, e, r0, r1, hS'⟩ => ?_
      subst e
      exact ⟨hS', _, rfl, _, rfl, r0, r1⟩
    · obtain ⟨hs, rfl, hh⟩ := typed hd
      simp at hlen
      have c : hs.length ≤ sizeLine := by omega
      simp [-List.map_map, c]
      exact ⟨hS, hs, by omega, by omega, hh, rfl⟩
  subst e
  refine ok_seq (fun ρ S => Pot R S ∧ ∃ L : Int, 1 ≤ L ∧ L ≤ 3 ∧ ρ = [some (.loc 1), some (.d (.int most)), some (.d (.list (hs.map .int))), some (.d (.int L)), none, none, none, none, none, none, none]) ?_ fun ρ S3 ⟨h3, L, l1, l3, e⟩ => ?_
  · simp [-List.map_map]
    refine (hDk h2 (by decide) (by decide)).imp0 fun v S1 ⟨w, e, w0, w1, h2⟩ => ?_
    subst e
    simp [-List.map_map]
    exact ⟨h2, by omega, by omega⟩
  subst e
  simp [-List.map_map, h3.len]
  refine (hDk (h3.push (.lst [])) (by omega) (by omega)).imp0 fun v S4 ⟨w, e, w0, w1, h4⟩ => ?_
  subst e
  simp [-List.map_map]
  refine ⟨fun _ _ => ?_, by omega, by omega⟩
  refine ok_for (I := PGI R hs.length L most [some (.loc 1), some (.d (.int most)), some (.d (.list (hs.map .int))), some (.d (.int L))]) (fun x r ρ S h => ?_) (fun ρ S h => ?_) _ _ _ ⟨fun x hx => ?_, [], by simp; omega, by simp, h4, 2, none, none, none, none, none, rfl⟩
  · obtain ⟨hi, rs, hl, hr, hS, pu, o1, o2, o3, o4, o5, rfl⟩ := h
    obtain ⟨i, rfl⟩ := hi x (by simp)
    simp only [List.length_cons] at hl
    refine ⟨trivial, ?_⟩
    refine (ok_frB).mpr ⟨_, rfl, ?_⟩
    refine ok_seq (fun ρ S => Pot (R ++ [.lst ((rs.map rD).map .d)]) S ∧ ∃ u : Rl, rOk hs.length L u ∧ ρ = [some (.loc 1), some (.d (.int most)), some (.d (.list (hs.map .int))), some (.d (.int L)), some (.loc (R.length + 2)), some (.d (.int pu)), some (.d (.int i)), o2, some (.d (rD u)), o4, o5]) ?_ fun ρ S6 ⟨h6, u, hu, e⟩ => ?_
    · simp [-List.map_map]
      refine (prule_ok hD hR' hS (by omega) (by omega) (by omega) (by omega)).imp0 fun v S5 ⟨u, e, hu, h5⟩ => ?_
      subst e
      (try simp [-List.map_map])
      exact ⟨h5, u, hu, rfl⟩
    subst e
    have hrl : (List.map Vl.d (List.map rD rs)).length = rs.length := by simp
    refine ok_seq (fun ρ S => S = S6 ∧ ∃ ds : List PyData, ρ = [some (.loc 1), some (.d (.int most)), some (.d (.list (hs.map .int))), some (.d (.int L)), some (.loc (R.length + 2)), some (.d (.int pu)), some (.d (.int i)), o2, some (.d (rD u)), some (.d (.list ds)), o5]) ?_ fun ρ S7 ⟨e7, ds, e⟩ => ?_
    · simp [-List.map_map, src_loc h6.last]
      refine comp_eachg (xs := List.map Vl.d (List.map rD rs)) (J := fun S => S = S6) (p := fun _ => True) (fun S e => by subst e; exact h6.last) (by rw [hrl]; omega) (fun y hy S hS => ?_) rfl fun ds1 S8 _ hl1 e1 => ?_
      · subst hS
        obtain ⟨d, hd, rfl⟩ := List.mem_map.mp hy
        obtain ⟨r1, _, rfl⟩ := List.mem_map.mp hd
        have nr : near (PyData.tuple [PyData.int r1.p, PyData.int r1.x]) (PyData.tuple [PyData.int u.p, PyData.int u.x]) = true := near_of (by simp [PyData.depth, PyData.depthAll])
        simp [rD, wipeR, cut2, cmp_eqd nr]
      · subst e1
        rw [hrl] at hl1
        have c4 : ds1.length ≤ sizeLine := by omega
        simp [newL_f, c4]
    subst e
    subst e7
    obtain ⟨hb, ehb, _⟩ := atI_mem2 (xs := hs.map PyData.int) hu.1 (by simpa using hu.2.1)
    obtain ⟨hbi, _, rfl⟩ := List.mem_map.mp (by assumption)
    have ni := ni_loc (a := rD u) h6.last (prule_depth u)
    have eap := app_eq (x := .d (rD u)) h6.last (by rw [hrl]; omega)
    have keep : ∀ o, PGI R hs.length L most [some (.loc 1), some (.d (.int most)), some (.d (.list (hs.map .int))), some (.d (.int L))] r [some (.loc 1), some (.d (.int most)), some (.d (.list (hs.map .int))), some (.d (.int L)), some (.loc (R.length + 2)), some (.d (.int pu)), some (.d (.int i)), o2, some (.d (rD u)), some (.d (.list ds)), o] S7 := fun o => ⟨fun y hy => hi y (by simp [hy]), rs, by omega, hr, h6, pu, _, _, _, _, _, rfl⟩
    have put : ∀ p' o, PGI R hs.length L most [some (.loc 1), some (.d (.int most)), some (.d (.list (hs.map .int))), some (.d (.int L))] r [some (.loc 1), some (.d (.int most)), some (.d (.list (hs.map .int))), some (.d (.int L)), some (.loc (R.length + 2)), some (.d (.int p')), some (.d (.int i)), o2, some (.d (rD u)), some (.d (.list ds)), o] (S7.set (R.length + 2) (.lst ((rs.map rD).map .d ++ [.d (rD u)]))) := fun p' o => by
      refine ⟨fun y hy => hi y (by simp [hy]), rs ++ [u], by simp; omega, fun z hz => ?_, ?_, p', _, _, _, _, _, rfl⟩
      · rcases List.mem_append.mp hz with h | h
        · exact hr z h
        · rw [List.mem_singleton.mp h]; exact hu
      · have := h6.putLast (.lst (((rs ++ [u]).map rD).map .d))
        simpa using this
    obtain ⟨up, ux, uq, uw⟩ := u
    simp only [rD] at *
    simp (maxSteps := 1000000) [-List.map_map, ni, eap, isTy_loc h6.last, ehb]
    refine ⟨fun _ => ⟨fun _ => put _ _, fun _ => ?_⟩, fun _ _ _ => keep _⟩
    split
    · exact put _ _
    · exact keep _
  · obtain ⟨hi, rs, hl, hr, hS, pu, o1, o2, o3, o4, o5, rfl⟩ := h
    refine ⟨trivial, ?_⟩
    simp [-List.map_map]
    refine (hNk hS (by omega) (by omega)).imp0 fun v S5 ⟨zs, e, hzl, hz, hnd, h5⟩ => ?_
    subst e
    have eL : ∀ S : Store, (rdL S (.d (.list (zs.map .str)))).bind pds = some (zs.map .str) := fun S => pds_map _
    have eH : ∀ S : Store, (rdL S (.d (.list (hs.map .int)))).bind pds = some (hs.map .int) := fun S => pds_map _
    have ez : ∀ S : Store, zipTV (.d (.list (zs.map .str))) (.d (.list (hs.map .int))) S = .ok (.d (.tuple ((zs.zip hs).map pD))) S := fun S => by
      simp only [zipTV, eL, eH]
      rw [List.zip_map, List.map_map]
      rfl
    simp [-List.map_map, ez]
    refine (hNk h5 (by omega) (by omega)).imp0 fun v S6 ⟨zs2, e, hzl2, hz2, hnd2, h6⟩ => ?_
    subst e
    have hrr : S6[R.length + 2]? = some (.lst ((rs.map rD).map .d)) := by
      have : R ++ [Ob.lst ((rs.map rD).map Vl.d)] ++ [Ob.dead] ++ [Ob.dead] = R ++ Ob.lst ((rs.map rD).map Vl.d) :: [Ob.dead, Ob.dead] := by simp
      rw [this] at h6
      exact h6.getM
    simp [-List.map_map, tup_loc hrr]
    refine ⟨⟨zs.zip hs, zs2, rs⟩, rfl, ?_, ?_, hnd2, _, by simpa using h6⟩
    · have el : (zs.zip hs).length = hs.length := by rw [List.length_zip]; omega
      have el2 : (zs2.length : Int) = L := hzl2
      refine ⟨by show 1 ≤ (zs.zip hs).length; omega, by show (zs.zip hs).length ≤ 3; omega, by show 1 ≤ zs2.length; omega, by show zs2.length ≤ 3; omega, by show rs.length ≤ 8; simp at hl; omega, fun p hp => ?_, hz2, fun u hu => ?_⟩
      · have := List.of_mem_zip (show (p.1, p.2) ∈ zs.zip hs from hp)
        exact ⟨hz _ this.1, ah _ this.2⟩
      · show rOk ((zs.zip hs).length : Int) (zs2.length : Int) u
        rw [el, el2]; exact hr u hu
    · show ((zs.zip hs).map (·.1)).Nodup
      rw [List.map_fst_zip (by omega)]; exact hnd
  · obtain ⟨i, hi, rfl⟩ := List.mem_map.mp hx
    exact ⟨i, rfl⟩
end
end DL

namespace DL
open PySem PySem.Spec PyProof.Rows L2
/-! ### the sets that come up, on the evaluator -/
def f_sets_come_up : Fd := ⟨["game", "arrows", "ends"], ["game", "arrows", "ends", "found", "met", "at", "letter", "known", "pile", "more"],
 (.cons (.asg (.tg (.nm 3)) (.lst true (.cons (.tup (.cons (.var 2) (.cons (.tup .nil) .nil))) .nil)))
 (.cons (.asg (.tg (.nm 4)) (.disp1 (.var 2) (.cst (.bool true))))
 (.cons (.asg (.tg (.nm 5)) (.cst (.int 0)))
 (.cons (.whl (.cmp .lt (.var 5) (.bi .len (.cons (.var 3) .nil)))
 (.cons (.asg (.tg (.tp (.cons (.nm 7) (.cons (.nm 8) .nil)))) (.ix (.var 3) (.var 5)))
 (.cons (.fr (.nm 6) (.rng1 (.bi .len (.cons (.ix (.var 0) (.cst (.int 1))) .nil)))
 (.cons (.asg (.tg (.nm 9)) (.call true "stands_over" (.cons (.var 1) (.cons (.var 7) (.cons (.var 6) .nil)))))
 (.cons (.ife (.cmp .notin (.var 9) (.var 4))
 (.cons (.asg (.sub (.var 4) (.var 9)) (.cst (.bool true)))
 (.cons (.expr (.mt .append (.var 3) (.cons (.tup (.cons (.var 9) (.cons (.bin (.add false) (.tup (.cons (.var 6) .nil)) (.var 8)) .nil))) .nil)))
 .nil))
 .nil)
 .nil)))
 (.cons (.asg (.tg (.nm 5)) (.bin (.add false) (.var 5) (.cst (.int 1))))
 .nil))))
 (.cons (.ret (.var 3))
 .nil)))))⟩

def f_law_sets : Fd := ⟨["_law_table_here", "_law_ends", "_law_stands", "_law_letters"], ["_law_table_here", "_law_ends", "_law_stands", "_law_letters", "_law_found", "_law_at", "_law_letter", "_law_pile", "_law_here", "_law_known", "_law_first"],
 (.cons (.asg (.tg (.nm 4)) (.lst true (.cons (.tup (.cons (.call false "_law_set" (.cons (.var 0) (.cons (.var 1) (.cons (.var 2) (.cons (.tup .nil) .nil))))) (.cons (.tup .nil) .nil))) .nil)))
 (.cons (.asg (.tg (.nm 5)) (.cst (.int 0)))
 (.cons (.whl (.cmp .lt (.var 5) (.bi .len (.cons (.var 4) .nil)))
 (.cons (.fr (.nm 6) (.rng1 (.var 3))
 (.cons (.asg (.tg (.nm 7)) (.bin (.add false) (.tup (.cons (.var 6) .nil)) (.ix (.ix (.var 4) (.var 5)) (.cst (.int 1)))))
 (.cons (.asg (.tg (.nm 8)) (.call false "_law_set" (.cons (.var 0) (.cons (.var 1) (.cons (.var 2) (.cons (.var 7) .nil))))))
 (.cons (.ife (.cmp .notin (.var 8) (.comp false [("_law_known", 9), ("_law_first", 10)] (.tp (.cons (.nm 9) (.cons (.nm 10) .nil))) (.val (.var 4)) .no (.var 9)))
 (.cons (.expr (.mt .append (.var 4) (.cons (.tup (.cons (.var 8) (.cons (.var 7) .nil))) .nil)))
 .nil)
 .nil)
 .nil))))
 (.cons (.asg (.tg (.nm 5)) (.bin (.add false) (.var 5) (.cst (.int 1))))
 .nil)))
 (.cons (.ret (.frz (.var 4)))
 .nil))))⟩

def f_law_piles : Fd := ⟨["_law_letters", "_law_many"], ["_law_letters", "_law_many", "_law_found", "_law_longest", "_law_k", "_law_longer", "_law_pile", "_law_letter"],
 (.cons (.asg (.tg (.nm 2)) (.lst true (.cons (.tup .nil) .nil)))
 (.cons (.asg (.tg (.nm 3)) (.lst false (.cons (.tup .nil) .nil)))
 (.cons (.fr (.nm 4) (.rng1 (.var 1))
 (.cons (.asg (.tg (.nm 5)) (.lst true .nil))
 (.cons (.fr (.nm 6) (.val (.var 3))
 (.cons (.expr (.mt .extend (.var 5) (.cons (.comp false [("_law_letter", 7)] (.nm 7) (.rng1 (.var 0)) .no (.bin (.add false) (.tup (.cons (.var 7) .nil)) (.var 6))) .nil)))
 .nil))
 (.cons (.asg (.tg (.nm 3)) (.var 5))
 (.cons (.expr (.mt .extend (.var 2) (.cons (.var 3) .nil)))
 .nil)))))
 (.cons (.ret (.frz (.var 2)))
 .nil))))⟩


def setD (as : List Ar) (ends : List Int) (n : Int) (p : List Int) : PyData := .tuple [plT (Sof as ends n p), plT p]
def keyS (xs : List Int) : NestedKey := .tup (xs.map .num)
theorem keyS_d (xs : List Int) : dataKey (plT xs) = some (keyS xs) := by
  have : dataKeys (xs.map .int) = some (xs.map NestedKey.num) := by
    induction xs with
    | nil => rfl
    | cons x xs ih => simp only [List.map_cons, dataKeys, dataKey, ih]; rfl
  simp only [plT, dataKey, this]; rfl
theorem keyS_t (xs : List Int) : ∃ ks, keyS xs = .tup ks := ⟨_, rfl⟩
theorem keyS_8 (xs : List Int) : (keyS xs).depth ≤ 8 := by
  have : NestedKey.depthAll (xs.map NestedKey.num) ≤ 1 := by
    induction xs with
    | nil => simp [NestedKey.depthAll]
    | cons x xs ih => simp only [List.map_cons, NestedKey.depthAll, NestedKey.depth]; omega
  simp only [keyS, NestedKey.depth]
  omega
theorem keyS_inj {xs ys : List Int} : keyS xs = keyS ys ↔ xs = ys := by
  simp only [keyS, NestedKey.tup.injEq]
  constructor
  · intro h
    induction xs generalizing ys with
    | nil => cases ys with
      | nil => rfl
      | cons _ _ => simp at h
    | cons x xs ih => cases ys with
      | nil => simp at h
      | cons y ys =>
        simp only [List.map_cons, List.cons.injEq, NestedKey.num.injEq] at h
        rw [h.1, ih h.2]
  · rintro rfl; rfl
theorem eqv_plT (xs ys : List Int) : PyData.eqv (plT xs) (plT ys) = decide (xs = ys) := by
  simp only [plT, PyData.eqv]
  induction xs generalizing ys with
  | nil => cases ys <;> simp [PyData.eqvAll]
  | cons x xs ih =>
    cases ys with
    | nil => simp [PyData.eqvAll]
    | cons y ys =>
      simp only [List.map_cons, PyData.eqvAll, PyData.eqv, ih ys, List.cons.injEq]
      by_cases h : x = y <;> simp [h]
theorem depth_plT (xs : List Int) : (plT xs).depth ≤ 1 := by simp [plT, PyData.depth, depth_ints]
def MetOk (as : List Ar) (ends : List Int) (n : Int) (ps : List (List Int)) (kvs : List (NestedKey × Vl)) : Prop := kvs.length ≤ ps.length ∧ ∀ xs, (lookN kvs (keyS xs)).isSome = decide (xs ∈ ps.map (Sof as ends n))
section
variable {gl : Str → Option PyData} {T : List (Str × Fd)} {k : Nat} {R S : Store}
variable {as : List Ar} {ends : List Int} {n ml : Int} {m : Nat} {N : Nat}
abbrev scuS (as : List Ar) (ends : List Int) (n : Int) (S0 : Store) (ps : List (List Int)) (kvs : List (NestedKey × Vl)) : Store := S0 ++ [.lst ((ps.map (setD as ends n)).map .d), .dd (S0.length + 1) kvs]
theorem scu_l {S0 : Store} {ps : List (List Int)} {kvs : List (NestedKey × Vl)} : (scuS as ends n S0 ps kvs)[S0.length]? = some (.lst ((ps.map (setD as ends n)).map .d)) := by
  rw [List.getElem?_append_right (Nat.le_refl _)]; simp
theorem scu_d {S0 : Store} {ps : List (List Int)} {kvs : List (NestedKey × Vl)} : (scuS as ends n S0 ps kvs)[S0.length + 1]? = some (.dd (S0.length + 1) kvs) := by
  rw [List.getElem?_append_right (Nat.le_succ _)]; simp
def SCI (as : List Ar) (ends : List Int) (n : Int) (m i : Nat) (g : PyData) (S0 : Store) (ps : List (List Int)) (p : List Int) (r : List Vl) (ρ : Rho) (S : Store) : Prop := ∃ c kvs, c + r.length = m ∧ r = ((List.range m).drop c).map (fun i : Nat => Vl.d (.int (i : Int))) ∧ S = scuS as ends n S0 ((List.range c).foldl (stepL (Sof as ends n) p) ps) kvs ∧ MetOk as ends n ((List.range c).foldl (stepL (Sof as ends n) p) ps) kvs ∧ ∃ o1 o2, ρ = [some (.d g), some (.d (.tuple (as.map arD))), some (.d (plT ends)), some (.loc S0.length), some (.loc (S0.length + 1)), some (.d (.int (i : Int))), o1, some (.d (plT (Sof as ends n p))), some (.d (plT p)), o2]
theorem ix_loc {q i : Nat} {ds : List PyData} {d : PyData} (h : S[q]? = some (.lst (ds.map .d))) (e : ds[i]? = some d) : ixV (.loc q) (.d (.int (i : Int))) S = .ok (.d d) S := by
  have hl := (List.getElem?_eq_some_iff.mp e).1
  obtain ⟨x, e1, e2⟩ := atI_some (xs := ds) (k := (i : Int)) (by omega) (by omega)
  have : ds[i]? = some x := by simpa using e2
  rw [e] at this
  cases this
  have : ixV (.loc q) (.d (.int (i : Int))) S = ofO (atI (ds.map .d) (i : Int)) S := by
    simp only [ixV, h]
  rw [this, atI_map, e1]; rfl
theorem bin_plT {l : Int} {p : List Int} (h : p.length + 1 ≤ sizeLine) : binV (.add false) (.d (.tuple [.int l])) (.d (plT p)) S = .ok (.d (plT (l :: p))) S := by
  show binV (.add false) (.d (.tuple [.int l])) (.d (.tuple (p.map .int))) S = _
  rw [bin_addt, if_pos (by simp only [List.length_map, List.length_singleton]; omega)]
  rfl
theorem met_put {ps : List (List Int)} {p : List Int} {kvs : List (NestedKey × Vl)} {v : Vl} (h : MetOk as ends n ps kvs) (hn : Sof as ends n p ∉ ps.map (Sof as ends n)) : MetOk as ends n (ps ++ [p]) (putN kvs (keyS (Sof as ends n p)) v) := by
  refine ⟨?_, fun xs => ?_⟩
  · have := putN_len (kvs := kvs) (k := keyS (Sof as ends n p)) (v := v)
    have := h.1
    simp; omega
  · rw [lookN_put]
    by_cases e : Sof as ends n p = xs
    · subst e
      rw [if_pos rfl]
      simp
    · rw [if_neg fun z => e (keyS_inj.mp z), h.2 xs]
      have e' : ¬ xs = Sof as ends n p := fun z => e z.symm
      simp [e']
theorem scu_loop {g : Gm} (hO : T.lookup ("stands_over" : Str) = some f_stands_over) (ha : ∀ a ∈ as, arOk n ml a) (hl : as.length ≤ 1000) (hm : g.lt.length = m) (hm3 : m ≤ 1000) (hN : ∀ i ps, Bf (Sof as ends n) m i ps → ps.length ≤ N) (hN2 : N ≤ 1000) :
    ∀ (f i : Nat) (ps : List (List Int)) (kvs : List (NestedKey × Vl)) (o1 o2 o3 o4 : Option Vl), i + f = N → Bf (Sof as ends n) m i ps → MetOk as ends n ps kvs →
    Ok (evS ⟨gl, fnAt gl T (k + 1)⟩ (.whl (.cmp .lt (.var 5) (.bi .len (.cons (.var 3) .nil)))
 (.cons (.asg (.tg (.tp (.cons (.nm 7) (.cons (.nm 8) .nil)))) (.ix (.var 3) (.var 5)))
 (.cons (.fr (.nm 6) (.rng1 (.bi .len (.cons (.ix (.var 0) (.cst (.int 1))) .nil)))
 (.cons (.asg (.tg (.nm 9)) (.call true "stands_over" (.cons (.var 1) (.cons (.var 7) (.cons (.var 6) .nil)))))
 (.cons (.ife (.cmp .notin (.var 9) (.var 4))
 (.cons (.asg (.sub (.var 4) (.var 9)) (.cst (.bool true)))
 (.cons (.expr (.mt .append (.var 3) (.cons (.tup (.cons (.var 9) (.cons (.bin (.add false) (.tup (.cons (.var 6) .nil)) (.var 8)) .nil))) .nil)))
 .nil))
 .nil)
 .nil)))
 (.cons (.asg (.tg (.nm 5)) (.bin (.add false) (.var 5) (.cst (.int 1))))
 .nil)))) [some (.d (gD g)), some (.d (.tuple (as.map arD))), some (.d (plT ends)), some (.loc S.length), some (.loc (S.length + 1)), some (.d (.int (i : Int))), o1, o2, o3, o4] (scuS as ends n S ps kvs))
      (fun o S' => ∃ ρ', o = .nx ρ' ∧ ρ'[3]? = some (some (.loc S.length)) ∧ ∃ kvs', S' = scuS as ends n S (bfs (Sof as ends n) m f i ps) kvs') E0 := by
  have sz := sz_eq
  intro f
  induction f with
  | zero =>
    intro i ps kvs o1 o2 o3 o4 hf hb hk
    have := hN i ps hb
    have c : ¬ i < ps.length := by omega
    apply ok_whl
    simp [-List.map_map, len_loc scu_l, c, bfs]
  | succ f ih =>
    intro i ps kvs o1 o2 o3 o4 hf hb hk
    have hNp := hN i ps hb
    by_cases c : i < ps.length
    · have e := List.getElem?_eq_getElem c
      generalize ps[i] = p at e
      have eb : bfs (Sof as ends n) m (f + 1) i ps = bfs (Sof as ends n) m f (i + 1) ((List.range m).foldl (stepL (Sof as ends n) p) ps) := by
        show (match ps[i]? with
          | some p => bfs (Sof as ends n) m f (i + 1) ((List.range m).foldl (stepL (Sof as ends n) p) ps)
          | none => ps) = _
        rw [e]
      have nx := (Bt.all hb e m).next
      have eix := ix_loc (S := scuS as ends n S ps kvs) (q := S.length) scu_l (show (ps.map (setD as ends n))[i]? = some (setD as ends n p) by rw [List.getElem?_map, e]; rfl)
      have eg : ∀ S' : Store, ixV (.d (gD g)) (.d (.int 1)) S' = .ok (.d (.tuple (g.lt.map .str))) S' := fun S' => by simp [gD]; rfl
      apply ok_whl
      simp [-List.map_map, len_loc scu_l, c, eix, setD, eg, hm]
      refine ⟨fun _ => ?_, by omega⟩
      refine ok_for (I := SCI as ends n m i (gD g) S ps p) (fun x r ρ S1 h => ?_) (fun ρ S1 h => ?_) _ _ _ ⟨0, kvs, by simp, by simp, rfl, hk, o1, o4, rfl⟩
      · obtain ⟨c0, kvs1, hc0, hr, rfl, hk1, u1, u2, rfl⟩ := h
        refine ⟨trivial, ?_⟩
        have hcm : c0 < m := by simp at hc0; omega
        rw [List.drop_eq_getElem_cons (by rw [List.length_range]; exact hcm), List.map_cons, List.getElem_range] at hr
        obtain ⟨hx, hr2⟩ := List.cons.inj hr
        subst hx
        have hbt := Bt.all hb e c0
        generalize hps : (List.range c0).foldl (stepL (Sof as ends n) p) ps = ps1 at *
        have hst : (List.range (c0 + 1)).foldl (stepL (Sof as ends n) p) ps = stepL (Sof as ends n) p ps1 c0 := by
          rw [List.range_succ, List.foldl_append, hps]; rfl
        have hl1 := hN i ps1 hbt.bf
        simp only [List.length_cons] at hc0
        simp [-List.map_map]
        refine (over_ok (known := Sof as ends n p) (l := (c0 : Int)) hO (fun a hm' => (ha a hm').2.2.1) hl).imp0 fun v S2 ⟨xs, e2, x1, xl, x2⟩ => ?_
        subst e2
        have ex : xs = Sof as ends n ((c0 : Int) :: p) := (Kn.step (Kn.self p) ha x1 x2).eq
        subst ex
        refine ⟨_, rfl, ?_⟩
        rw [dd_notin scu_d (keyS_d _) (keyS_t _) (keyS_8 _), hk1.2]
        have hkl : kvs1.length < sizeLine := by have := hk1.1; omega
        have hdm : S.length + 1 < (scuS as ends n S ps1 kvs1).length := by simp
        by_cases cin : Sof as ends n ((c0 : Int) :: p) ∈ ps1.map (Sof as ends n)
        · have es : stepL (Sof as ends n) p ps1 c0 = ps1 := if_pos cin
          simp only [cin, decide_true, Bool.not_true, ok_ok, toB_eq, Bool.false_eq_true, if_false]
          exact ⟨c0 + 1, kvs1, by omega, hr2, by rw [hst, es], by rw [hst, es]; exact hk1, _, _, rfl⟩
        · have es : stepL (Sof as ends n) p ps1 c0 = ps1 ++ [(c0 : Int) :: p] := if_neg cin
          have hpl := hbt.bf.len p (List.mem_of_getElem? hbt.at_)
          simp only [cin, decide_false, Bool.not_false, ok_ok, toB_eq, if_true]
          rw [dd_set scu_d (keyS_d _) (keyS_t _) (keyS_8 _) hkl, ok_ok]
          have e3 : (scuS as ends n S ps1 kvs1).set (S.length + 1) (.dd (S.length + 1) (putN kvs1 (keyS (Sof as ends n ((c0 : Int) :: p))) (.d (.bool true)))) = scuS as ends n S ps1 (putN kvs1 (keyS (Sof as ends n ((c0 : Int) :: p))) (.d (.bool true))) := by
            rw [List.set_append_right _ _ (Nat.le_succ _)]
            simp
          rw [e3]
          refine ⟨fun _ => ?_, isTy_loc scu_l⟩
          rw [bin_plT (by omega)]
          simp only [ok_ok, pds_cons, pds_nil, Option.map_some]
          rw [app_eq scu_l (by simp; omega), ok_ok]
          refine ⟨c0 + 1, putN kvs1 (keyS (Sof as ends n ((c0 : Int) :: p))) (.d (.bool true)), by omega, hr2, ?_, by rw [hst, es]; exact met_put hk1 cin, _, _, rfl⟩
          rw [hst, es, List.set_append_right _ _ (Nat.le_refl _)]
          simp [setD]
      · obtain ⟨c0, kvs1, hc0, hr, rfl, hk1, u1, u2, rfl⟩ := h
        obtain rfl : c0 = m := by simpa using hc0
        refine ⟨trivial, ?_⟩
        have := ih (i + 1) _ kvs1 u1 (some (.d (plT (Sof as ends n p)))) (some (.d (plT p))) u2 (by omega) nx hk1
        simp [-List.map_map]
        rw [eb]
        simpa using this
    · apply ok_whl
      simp [-List.map_map, len_loc scu_l, c]
      have : bfs (Sof as ends n) m (f + 1) i ps = ps := by
        show (match ps[i]? with
          | some p => bfs (Sof as ends n) m f (i + 1) ((List.range m).foldl (stepL (Sof as ends n) p) ps)
          | none => ps) = _
        rw [List.getElem?_eq_none (by omega)]
      rw [this]
theorem scu_ok {g : Gm} (hO : T.lookup ("stands_over" : Str) = some f_stands_over) (hT : T.lookup ("sets_come_up" : Str) = some f_sets_come_up) (ha : ∀ a ∈ as, arOk n ml a) (hl : as.length ≤ 1000) (he : ends.Pairwise (· < ·)) (he2 : ∀ i ∈ ends, 0 ≤ i ∧ i < n) (hm : g.lt.length = m) (hm3 : m ≤ 1000) (hN : 2 ^ n.toNat ≤ N) (hN2 : N ≤ 1000) :
    Ok (fnAt gl T (k + 2) "sets_come_up" [.d (gD g), .d (.tuple (as.map arD)), .d (plT ends)] S) (fun v S' => v = .loc S.length ∧ ∃ kvs, S' = scuS as ends n S (bfs (Sof as ends n) m N 0 [[]]) kvs) E0 := by
  have sz := sz_eq
  have e0 : Sof as ends n [] = ends := (Kn.eq (as := as) (ends := ends) (n := n) (p := []) ⟨he, fun i => by
    constructor
    · intro h; exact ⟨he2 i h, by simpa [rd] using h⟩
    · rintro ⟨_, h⟩; simpa [rd] using h⟩).symm
  rw [ok_fn hT, ok_run]
  refine ⟨rfl, ?_⟩
  unfold f_sets_come_up
  refine ok_seq (fun ρ S' => S' = S ++ [.lst ((([[]] : List (List Int)).map (setD as ends n)).map .d)] ∧ ρ = [some (.d (gD g)), some (.d (.tuple (as.map arD))), some (.d (plT ends)), some (.loc S.length), none, none, none, none, none, none]) ?_ fun ρ S1 ⟨eS, e⟩ => ?_
  · simp [-List.map_map]
    have z1 : 1 ≤ sizeLine := by decide
    simp [setD, e0, plT, z1]
  subst e eS
  refine ok_seq (fun ρ S' => S' = scuS as ends n S [[]] [(keyS ends, .d (.bool true))] ∧ ρ = [some (.d (gD g)), some (.d (.tuple (as.map arD))), some (.d (plT ends)), some (.loc S.length), some (.loc (S.length + 1)), none, none, none, none, none]) ?_ fun ρ S1 ⟨eS, e⟩ => ?_
  · simp [-List.map_map, disp1V]
    rw [keyS_d]
    simp only [keyS]
    rw [if_pos (show (NestedKey.tup (ends.map .num)).depth ≤ 8 from keyS_8 ends)]
    exact ⟨rfl, rfl⟩
  subst e eS
  have hN' : ∀ i ps, Bf (Sof as ends n) m i ps → ps.length ≤ N := fun i ps h => Nat.le_trans (Sof_bound h) hN
  refine ok_seq (fun ρ S' => ρ = [some (.d (gD g)), some (.d (.tuple (as.map arD))), some (.d (plT ends)), some (.loc S.length), some (.loc (S.length + 1)), some (.d (.int ((0 : Nat) : Int))), none, none, none, none] ∧ S' = scuS as ends n S [[]] [(keyS ends, .d (.bool true))]) ?_ fun ρ S1 ⟨e, eS⟩ => ?_
  · simp
  subst e eS
  rw [ok_ss]
  refine (scu_loop hO ha hl hm hm3 hN' hN2 N 0 [[]] _ none none none none (by omega) Bf.start ⟨by simp, fun xs => ?_⟩).imp0 fun o S2 ⟨ρ', e, e2, kvs', e3⟩ => ?_
  · rw [List.map_singleton, e0]
    unfold lookN
    by_cases c : ends = xs
    · subst c; simp
    · have c' : ¬ keyS ends = keyS xs := fun z => c (keyS_inj.mp z)
      have c2 : ¬ xs = ends := fun z => c z.symm
      simp [c', c2]
  · subst e e3
    simp [e2]
end
end DL

namespace DL
open PySem PySem.Spec PyProof.Rows L2
/-! ### the rules here, as data -/
def f_ru_at : Fd := ⟨["game", "place", "letter"], ["game", "place", "letter", "k", "p", "x", "q", "w"],
 (.cons (.ret (.comp false [("k", 3), ("p", 4), ("x", 5), ("q", 6), ("w", 7)] (.tp (.cons (.nm 3) (.cons (.tp (.cons (.nm 4) (.cons (.nm 5) (.cons (.nm 6) (.cons (.nm 7) .nil))))) .nil))) (.enum (.ix (.var 0) (.cst (.int 2)))) (.yes (.band (.cmp .eq (.var 4) (.var 1)) (.cmp .eq (.var 5) (.var 2)))) (.var 3)))
 .nil)⟩
def f_ru_here : Fd := ⟨["game", "place", "pile"], ["game", "place", "pile"],
 (.cons (.ife (.cmp .eq (.bi .len (.cons (.var 2) .nil)) (.cst (.int 0)))
 (.cons (.ret (.lst false .nil))
 .nil)
 .nil)
 (.cons (.ret (.call true "rules_at" (.cons (.var 0) (.cons (.var 1) (.cons (.ix (.var 2) (.cst (.int 0))) .nil)))))
 .nil))⟩
def f_ru_behind : Fd := ⟨["game", "place", "pile", "rule"], ["game", "place", "pile", "rule", "p", "x", "q", "w"],
 (.cons (.asg (.tg (.tp (.cons (.nm 4) (.cons (.nm 5) (.cons (.nm 6) (.cons (.nm 7) .nil)))))) (.ix (.ix (.var 0) (.cst (.int 2))) (.var 3)))
 (.cons (.ret (.tup (.cons (.var 6) (.cons (.bin (.add false) (.var 7) (.sl false (.var 2) (.yes (.cst (.int 1))) .no)) .nil))))
 .nil))⟩
section
variable {P : Pg} {gl : Str → Option PyData} {T : List (Str × Fd)} {k : Nat} {R S : Store}
def pck (place letter : Int) : Rl × Nat → Bool := fun p => decide (p.1.p = place) && decide (p.1.x = letter)
/-- the numbers of the rules that serve here -/
def srv (rs : List Rl) (place : Int) : List Int → List Nat
  | [] => []
  | l :: _ => (rs.zipIdx.filter (pck place l)).map (·.2)
@[simp] theorem enum_tupG {xs : List PyData} : enumV (.d (.tuple xs)) S = .ok ⟨enumL xs, none⟩ S := rfl
theorem ru_at_ok {g : Gm} {place l : Int} {pile : List Int} (hT : T.lookup ("rules_at" : Str) = some f_ru_at) (h8 : g.rs.length ≤ 1000) :
    Ok (fnAt gl T (k + 1) "rules_at" [.d (gD g), .d (.int place), .d (.int l)] S) (fun v S' => v = .d (.list ((srv g.rs place (l :: pile)).map fun i : Nat => PyData.int (i : Int))) ∧ S' = S) E0 := by
  have sz := sz_eq
  rw [ok_fn hT, ok_run]
  refine ⟨rfl, ?_⟩
  unfold f_ru_at gD
  simp [-List.map_map]
  have e : enumL (g.rs.map rD) = (g.rs.zipIdx).map fun p => Vl.d (.tuple [.int (p.2 : Int), rD p.1]) := by
    unfold enumL
    rw [List.zipIdx_map, List.map_map]
    rfl
  rw [e]
  refine comp_fm (toD := fun p : Rl × Nat => Vl.d (.tuple [.int (p.2 : Int), rD p.1])) (g := fun p => if pck place l p = true then some (.int (p.2 : Int)) else none) (by simp; omega) (fun p hp => ?_) ?_
  · obtain ⟨⟨rp, rx, rq, rw_⟩, i⟩ := p
    by_cases a : rp = place <;> by_cases b : rx = l <;> simp [wipeR, rD, pck, a, b]
  · have e2 : (g.rs.zipIdx.filterMap fun p => if pck place l p = true then some (PyData.int (p.2 : Int)) else none) = (srv g.rs place (l :: pile)).map fun i : Nat => PyData.int (i : Int) := by
      rw [fm_cond]; simp [srv]
    have hl : (srv g.rs place (l :: pile)).length ≤ g.rs.length := by
      unfold srv
      rw [List.length_map]
      exact Nat.le_trans (List.length_filter_le _ _) (by simp)
    rw [e2]
    simp [-List.map_map]
    rw [sz]; omega
theorem ru_here_ok {g : Gm} {place : Int} {pile : List Int} (hA : T.lookup ("rules_at" : Str) = some f_ru_at) (hT : T.lookup ("rules_here" : Str) = some f_ru_here) (h8 : g.rs.length ≤ 1000) :
    Ok (fnAt gl T (k + 2) "rules_here" [.d (gD g), .d (.int place), .d (plT pile)] S) (fun v S' => v = .d (.list ((srv g.rs place pile).map fun i : Nat => PyData.int (i : Int))) ∧ S' = S) E0 := by
  have sz := sz_eq
  rw [ok_fn hT, ok_run]
  refine ⟨rfl, ?_⟩
  unfold f_ru_here plT
  cases pile with
  | nil => simp [srv]
  | cons x t =>
    have : ¬ ((t.length : Int) + 1 = 0) := by omega
    simp [-List.map_map, this]
    refine (ru_at_ok (pile := t) hA h8).imp0 fun v S' ⟨e, e2⟩ => ?_
    subst e
    simp
theorem ru_behind_ok {g : Gm} {place : Int} {pile : List Int} {i : Nat} {r : Rl} (hT : T.lookup ("behind" : Str) = some f_ru_behind) (hi : g.rs[i]? = some r) (hw : r.w.length ≤ 100) (hp : pile.length ≤ 1000) :
    Ok (fnAt gl T (k + 1) "behind" [.d (gD g), .d (.int place), .d (plT pile), .d (.int (i : Int))] S) (fun v S' => v = .d (.tuple [.int r.q, plT (r.w ++ pile.tail)]) ∧ S' = S) E0 := by
  have sz := sz_eq
  have hlt : i < g.rs.length := (List.getElem?_eq_some_iff.mp hi).1
  have ea : atI (g.rs.map rD) (i : Int) = some (rD r) := by
    obtain ⟨x, e1, e2⟩ := atI_some (xs := g.rs.map rD) (k := (i : Int)) (by omega) (by simp; omega)
    rw [e1]
    simp at e2
    rw [hi] at e2
    obtain ⟨a, e3, rfl⟩ := e2
    cases e3
    rfl
  have hc : cutL (pile.map PyData.int) (some 1) none = pile.tail.map .int := by
    cases pile with
    | nil => rfl
    | cons x t => rw [List.map_cons, cutL_tail]; rfl
  rw [ok_fn hT, ok_run]
  refine ⟨rfl, ?_⟩
  unfold f_ru_behind gD plT
  have c : r.w.length + (pile.length - 1) ≤ sizeLine := by omega
  simp [-List.map_map, ea]
  simp [-List.map_map, rD, c, hc]
/-! ### bringing it about within k moves -/
/-- the first brings it about within k moves -/
def win (g : Gm) (rdg : List Int → Int → Bool) : Nat → Int → List Int → Bool
  | 0, p, pile => rdg pile p
  | k + 1, p, pile => rdg pile p || (let nx := (srv g.rs p pile).map fun i => win g rdg k ((g.rs.getD i ⟨0, 0, 0, []⟩).q) ((g.rs.getD i ⟨0, 0, 0, []⟩).w ++ pile.tail)
    if (g.pl.getD p.toNat (Str.empty, 0)).2 = 0 then nx.any id else !nx.isEmpty && nx.all id)
end
end DL

namespace DL
open PySem PySem.Spec PyProof.Rows L2
/-! ### the class Going -/
def f_Going_init : Fd := ⟨["self", "game", "saying"], ["self", "game", "saying"],
 (.cons (.asg (.fld "Going" (.var 0) "game") (.var 1))
 (.cons (.asg (.fld "Going" (.var 0) "saying") (.var 2))
 (.cons (.asg (.fld "Going" (.var 0) "known") .dnewT)
 .nil)))⟩
def f_Going_brings : Fd := ⟨["self", "where", "k"], ["self", "where", "k", "key"],
 (.cons (.asg (.tg (.nm 3)) (.tup (.cons (.var 1) (.cons (.var 2) .nil))))
 (.cons (.ife (.cmp .notin (.var 3) (.fld "Going" (.var 0) "known"))
 (.cons (.asg (.sub (.fld "Going" (.var 0) "known") (.var 3)) (.meth "Going" (.var 0) "looked" (.cons (.var 1) (.cons (.var 2) .nil))))
 .nil)
 .nil)
 (.cons (.ret (.ix (.fld "Going" (.var 0) "known") (.var 3)))
 .nil)))⟩
def f_Going_looked : Fd := ⟨["self", "where", "k"], ["self", "where", "k", "rules", "found", "place", "pile", "rule"],
 (.cons (.asg (.tg (.tp (.cons (.nm 5) (.cons (.nm 6) .nil)))) (.var 1))
 (.cons (.ife (.call true "is_in" (.cons (.fld "Going" (.var 0) "saying") (.cons (.var 5) (.cons (.var 6) .nil))))
 (.cons (.ret (.cst (.bool true)))
 .nil)
 .nil)
 (.cons (.ife (.cmp .eq (.var 2) (.cst (.int 0)))
 (.cons (.ret (.cst (.bool false)))
 .nil)
 .nil)
 (.cons (.asg (.tg (.nm 3)) (.call true "rules_here" (.cons (.fld "Going" (.var 0) "game") (.cons (.var 5) (.cons (.var 6) .nil)))))
 (.cons (.asg (.tg (.nm 4)) (.comp false [("rule", 7)] (.nm 7) (.val (.var 3)) .no (.meth "Going" (.var 0) "brings" (.cons (.call true "behind" (.cons (.fld "Going" (.var 0) "game") (.cons (.var 5) (.cons (.var 6) (.cons (.var 7) .nil))))) (.cons (.bin .sub (.var 2) (.cst (.int 1))) .nil)))))
 (.cons (.ife (.cmp .eq (.ix (.ix (.ix (.fld "Going" (.var 0) "game") (.cst (.int 0))) (.var 5)) (.cst (.int 1))) (.cst (.int 0)))
 (.cons (.ret (.cmp .isin (.cst (.bool true)) (.var 4)))
 .nil)
 .nil)
 (.cons (.ret (.band (.cmp .gt (.bi .len (.cons (.var 4) .nil)) (.cst (.int 0))) (.cmp .notin (.cst (.bool false)) (.var 4))))
 .nil)))))))⟩
section
variable {P : Pg} {gl : Str → Option PyData} {T : List (Str × Fd)} {k : Nat} {R S : Store} {E : EX}
/-- a list made while the store changes, with the number made so far -/
theorem comp_fmN {α : Type} {ys : List α} {toD : α → Vl} {f : Vl → M (Option Vl)} {g : α → PyData} {J : Nat → Store → Prop} {Q : List Vl → Store → Prop} (hl : ys.length ≤ sizeLine)
    (hs : ∀ i x, ys[i]? = some x → ∀ S, J i S → Ok (f (toD x) S) (fun o S' => o = some (.d (g x)) ∧ J (i + 1) S') E) (hJ : J 0 S) (hq : ∀ S', J ys.length S' → Q ((ys.map g).map .d) S') : Ok (compGo ⟨ys.map toD, none⟩ f (ys.map toD) [] S) Q E := by
  refine ok_comp (I := fun r acc S => ∃ done rest : List α, J done.length S ∧ ys = done ++ rest ∧ r = rest.map toD ∧ acc = (done.map g).map .d) (fun x r acc S h => ?_) (fun acc S h => ?_) _ [] S ⟨[], ys, hJ, rfl, rfl, rfl⟩
  · obtain ⟨done, rest, h1, e1, e2, rfl⟩ := h
    cases rest with
    | nil => cases e2
    | cons y rest =>
      cases e2
      have hm : ys[done.length]? = some y := by rw [e1]; simp
      have hlen : done.length + 1 ≤ ys.length := by rw [e1]; simp
      refine ⟨trivial, (hs _ y hm S h1).imp (fun o S' q => ?_) fun _ _ _ z => z⟩
      obtain ⟨rfl, q1⟩ := q
      exact ⟨by simp <;> omega, done ++ [y], rest, by simpa using q1, by rw [e1]; simp, rfl, by simp⟩
  · obtain ⟨done, rest, h1, e1, e2, rfl⟩ := h
    cases rest with
    | cons y rest => cases e2
    | nil =>
      rw [List.append_nil] at e1
      subst e1
      exact ⟨trivial, hq S h1⟩
def gn (g : Gm) (sa : PyData) (kvs : List (NestedKey × Vl)) : Store := [.ins "Going" [("game", .d (gD g)), ("saying", .d sa), ("known", .loc 1)], .dd 1 kvs]
def keyK (p : Int) (pile : List Int) (k : Nat) : NestedKey := .tup [.tup [.num p, keyS pile], .num (k : Int)]
def whD (p : Int) (pile : List Int) : PyData := .tuple [.int p, plT pile]
theorem keyK_d (p : Int) (pile : List Int) (k : Nat) : dataKey (.tuple [whD p pile, .int (k : Int)]) = some (keyK p pile k) := by
  have := keyS_d pile
  simp [whD, dataKey, dataKeys, this, keyK]
theorem keyK_inj {p q : Int} {v w : List Int} {k j : Nat} : keyK p v k = keyK q w j ↔ p = q ∧ v = w ∧ k = j := by
  unfold keyK
  simp [keyS_inj, and_assoc]
  intro _ _
  omega
theorem keyK_8 (p : Int) (v : List Int) (k : Nat) : (keyK p v k).depth ≤ 8 := by
  have h : (keyS v).depth ≤ 2 := by
    have : NestedKey.depthAll (v.map NestedKey.num) ≤ 1 := by
      induction v with
      | nil => simp [NestedKey.depthAll]
      | cons x xs ih => simp only [List.map_cons, NestedKey.depthAll, NestedKey.depth]; omega
    simp only [keyS, NestedKey.depth]
    omega
  unfold keyK
  simp only [NestedKey.depth, NestedKey.depthAll]
  omega
theorem keyK_t (p : Int) (v : List Int) (k : Nat) : ∃ ks, keyK p v k = .tup ks := ⟨_, rfl⟩
def cntK : Nat → Nat | 0 => 1 | k + 1 => 1 + 8 * cntK k
def MemoG (g : Gm) (rdg : List Int → Int → Bool) (kvs : List (NestedKey × Vl)) : Prop := ∀ p pile k v, lookN kvs (keyK p pile k) = some v → v = .d (.bool (win g rdg k p pile))
theorem MemoG.put {g : Gm} {rdg : List Int → Int → Bool} {kvs : List (NestedKey × Vl)} (h : MemoG g rdg kvs) {p : Int} {pile : List Int} {k : Nat} : MemoG g rdg (putN kvs (keyK p pile k) (.d (.bool (win g rdg k p pile)))) := by
  intro q w j v e
  rw [lookN_put] at e
  split at e
  · rename_i c
    obtain ⟨rfl, rfl, rfl⟩ := keyK_inj.mp c
    exact (Option.some.inj e).symm
  · exact h q w j v e
section
variable {g : Gm} {sa : PyData} {kvs : List (NestedKey × Vl)}
@[simp] theorem gn_ga : fldV "Going" "game" (.loc 0) (gn g sa kvs) = .ok (.d (gD g)) (gn g sa kvs) := rfl
@[simp] theorem gn_sa : fldV "Going" "saying" (.loc 0) (gn g sa kvs) = .ok (.d sa) (gn g sa kvs) := rfl
@[simp] theorem gn_kn : fldV "Going" "known" (.loc 0) (gn g sa kvs) = .ok (.loc 1) (gn g sa kvs) := rfl
theorem gn_br : insOk "Going" "brings" (.loc 0) (gn g sa kvs) = true := by
  show (decide (("Going" : Str) = "Going") && (lookF [(("game" : Str), Vl.d (gD g)), ("saying", .d sa), ("known", .loc 1)] "brings").isNone) = true
  have : ∀ a, lookF [(("game" : Str), Vl.d (gD g)), ("saying", .d sa), ("known", .loc 1)] a = none ↔ ("game" : Str) ≠ a ∧ ("saying" : Str) ≠ a ∧ ("known" : Str) ≠ a := by intro a; simp [lookF]
  rw [Bool.and_eq_true]
  refine ⟨by simp, ?_⟩
  rw [Option.isNone_iff_eq_none]
  exact (this _).mpr (by decide +kernel)
theorem gn_lo : insOk "Going" "looked" (.loc 0) (gn g sa kvs) = true := by
  show (decide (("Going" : Str) = "Going") && (lookF [(("game" : Str), Vl.d (gD g)), ("saying", .d sa), ("known", .loc 1)] "looked").isNone) = true
  have : ∀ a, lookF [(("game" : Str), Vl.d (gD g)), ("saying", .d sa), ("known", .loc 1)] a = none ↔ ("game" : Str) ≠ a ∧ ("saying" : Str) ≠ a ∧ ("known" : Str) ≠ a := by intro a; simp [lookF]
  rw [Bool.and_eq_true]
  refine ⟨by simp, ?_⟩
  rw [Option.isNone_iff_eq_none]
  exact (this _).mpr (by decide +kernel)
def nJ (j : Nat) : PyData := .int (j : Int)
def GoOk (T : List (Str × Fd)) : Prop := T.lookup (mkey "Going" "brings") = some f_Going_brings ∧ T.lookup (mkey "Going" "looked") = some f_Going_looked ∧ T.lookup ("is_in" : Str) = some f_say_isin ∧ T.lookup ("reads" : Str) = some f_say_reads ∧ T.lookup ("rules_here" : Str) = some f_ru_here ∧ T.lookup ("rules_at" : Str) = some f_ru_at ∧ T.lookup ("behind" : Str) = some f_ru_behind
def sayD (n : Int) (as : List Ar) (ends : List Int) : PyData := .tuple [.int n, .tuple (as.map arD), plT ends]
/-- what brings answers, and what it leaves -/
def BrOk (g : Gm) (sa : PyData) (rdg : List Int → Int → Bool) (kvs : List (NestedKey × Vl)) (c : Nat) (b : Bool) (v : Vl) (S' : Store) : Prop := v = .d (.bool b) ∧ ∃ kvs', S' = gn g sa kvs' ∧ MemoG g rdg kvs' ∧ kvs'.length ≤ kvs.length + c
theorem brings_of {as : List Ar} {ends : List Int} {n p : Int} {pile : List Int} {j K : Nat} (hT : GoOk T) (hM : MemoG g (rd as ends) kvs) (hl : kvs.length + cntK j < 16000000) (hc : 1 ≤ cntK j)
    (hlook : Ok (fnAt gl T K (mkey "Going" "looked") [.loc 0, .d (whD p pile), .d (nJ j)] (gn g (sayD n as ends) kvs)) (BrOk g (sayD n as ends) (rd as ends) kvs (cntK j - 1) (win g (rd as ends) j p pile)) E0) :
    Ok (fnAt gl T (K + 1) (mkey "Going" "brings") [.loc 0, .d (whD p pile), .d (nJ j)] (gn g (sayD n as ends) kvs)) (BrOk g (sayD n as ends) (rd as ends) kvs (cntK j) (win g (rd as ends) j p pile)) E0 := by
  have hsz : sizeLine = 16777216 := rfl
  rw [ok_fn hT.1, ok_run]
  refine ⟨rfl, ?_⟩
  unfold f_Going_brings
  refine ok_seq (fun ρ S' => ρ = [some (.loc 0), some (.d (whD p pile)), some (.d (nJ j)), some (.d (.tuple [whD p pile, nJ j]))] ∧ S' = gn g (sayD n as ends) kvs) (by simp) ?_
  rintro ρ S' ⟨rfl, rfl⟩
  refine ok_seq (fun ρ S' => ρ = [some (.loc 0), some (.d (whD p pile)), some (.d (nJ j)), some (.d (.tuple [whD p pile, nJ j]))] ∧ ∃ kvs', S' = gn g (sayD n as ends) kvs' ∧ MemoG g (rd as ends) kvs' ∧ kvs'.length ≤ kvs.length + cntK j ∧ (lookN kvs' (keyK p pile j)).isSome = true) ?_ ?_
  · have e1 := dd_notin (S := gn g (sayD n as ends) kvs) (n := 1) (kvs := kvs) rfl (keyK_d p pile j) (keyK_t p pile j) (keyK_8 p pile j)
    unfold nJ at *
    simp
    rw [e1]
    simp
    split
    · rename_i c
      refine ⟨fun _ => ?_, gn_lo⟩
      refine Ok.imp0 (Q := BrOk g (sayD n as ends) (rd as ends) kvs (cntK j - 1) (win g (rd as ends) j p pile)) hlook fun v S' ⟨e, kvs', e2, m1, m2⟩ => ?_
      subst e e2
      simp
      have e3 := dd_set (S := gn g (sayD n as ends) kvs') (n := 1) (kvs := kvs') (y := .d (.bool (win g (rd as ends) j p pile))) rfl (keyK_d p pile j) (keyK_t p pile j) (keyK_8 p pile j) (by omega)
      rw [e3]
      simp only [ok_ok]
      refine ⟨putN kvs' (keyK p pile j) (.d (.bool (win g (rd as ends) j p pile))), rfl, m1.put, ?_, by rw [lookN_put, if_pos rfl]; rfl⟩
      have := putN_len (kvs := kvs') (k := keyK p pile j) (v := .d (.bool (win g (rd as ends) j p pile)))
      omega
    · rename_i c
      exact ⟨kvs, rfl, hM, by omega, Option.isSome_iff_ne_none.mpr c⟩
  rintro ρ S' ⟨rfl, kvs', rfl, h1, h2, h3⟩
  rw [ok_ss]
  have e1 := dd_ix (S := gn g (sayD n as ends) kvs') (n := 1) (kvs := kvs') rfl (keyK_d p pile j) (keyK_t p pile j) (keyK_8 p pile j)
  obtain ⟨v, hv⟩ := Option.isSome_iff_exists.mp h3
  have := h1 _ _ _ _ hv
  subst this
  rw [hv] at e1
  unfold nJ
  simp
  rw [e1]
  exact ⟨rfl, kvs', rfl, h1, h2⟩
end
end
end DL

namespace DL
open PySem PySem.Spec PyProof.Rows L2
/-! ### the third dice of the laws -/
def f_t_deal : Fd := ⟨["_law_script", "_law_base"], ["_law_script", "_law_base", "_law_cells", "_law_number", "_law_cell"],
 (.cons (.asg (.tg (.nm 2)) (.comp false [("_law_cell", 4)] (.nm 4) (.val (.sl false (.var 0) (.yes (.var 1)) (.yes (.cst (.int 63))))) .no (.bi .max2 (.cons (.var 4) (.cons (.bin .sub (.cst (.int 0)) (.var 4)) .nil)))))
 (.cons (.asg (.tg (.nm 3)) (.bin (.add false) (.cst (.int 6271)) (.bin .mul (.cst (.int 11)) (.var 1))))
 (.cons (.fr (.nm 4) (.val (.var 2))
 (.cons (.asg (.tg (.nm 3)) (.bin .mod (.bin (.add false) (.bin (.add false) (.bin .mul (.var 3) (.cst (.int 69313))) (.bin .mod (.var 4) (.cst (.int 2147483579)))) (.cst (.int 17))) (.cst (.int 2147483647))))
 .nil))
 (.cons (.ret (.disp ["seed", "number", "left"] (.cons (.var 3) (.cons (.cst (.int 0)) (.cons (.lrev true (.comp false [("_law_cell", 4)] (.nm 4) (.val (.var 2)) (.yes (.cmp .ge (.var 4) (.bin .pow (.cst (.int 10)) (.cst (.int 18))))) (.var 4))) .nil)))))
 .nil))))⟩
def f_t_draw : Fd := ⟨["_law_deal_here", "_law_many"], ["_law_deal_here", "_law_many", "_law_number", "_law_one", "_law_other"],
 (.cons (.whl (.band (.cmp .eq (.ix (.var 0) (.cst (.str "number"))) (.cst (.int 0))) (.cmp .gt (.bi .len (.cons (.ix (.var 0) (.cst (.str "left"))) .nil)) (.cst (.int 0))))
 (.cons (.asg (.sub (.var 0) (.cst (.str "number"))) (.mt .pop (.ix (.var 0) (.cst (.str "left"))) .nil))
 .nil))
 (.cons (.asg (.tg (.nm 2)) (.ix (.var 0) (.cst (.str "number"))))
 (.cons (.ife (.cmp .gt (.var 2) (.cst (.int 0)))
 (.cons (.asg (.sub (.var 0) (.cst (.str "number"))) (.bin .fdiv (.var 2) (.var 1)))
 (.cons (.ret (.bin .mod (.var 2) (.var 1)))
 .nil))
 .nil)
 (.cons (.asg (.tg (.nm 3)) (.bin .mod (.bin (.add false) (.bin .mul (.ix (.var 0) (.cst (.str "seed"))) (.cst (.int 48271))) (.cst (.int 5003))) (.cst (.int 2147483647))))
 (.cons (.asg (.sub (.var 0) (.cst (.str "seed"))) (.bin .mod (.bin (.add false) (.bin .mul (.var 3) (.cst (.int 39373))) (.cst (.int 60013))) (.cst (.int 2147483587))))
 (.cons (.asg (.tg (.nm 4)) (.bin .mod (.bin .mul (.ix (.var 0) (.cst (.str "seed"))) (.ix (.var 0) (.cst (.str "seed")))) (.cst (.int 2147483549))))
 (.cons (.ret (.bin .mod (.bin (.add false) (.bin .mul (.bin .mod (.bin .mul (.var 3) (.var 3)) (.cst (.int 2147483563))) (.cst (.int 2147483549))) (.var 4)) (.var 1)))
 .nil)))))))⟩
theorem tdraw_ok {gl : Str → Option PyData} {T : List (Str × Fd)} {k : Nat} {R S : Store} {m : Int} (hT : T.lookup ("_law_draw" : Str) = some f_t_draw) (h : Deal R S) (hm : 0 < m) (hm2 : m < 1073741824) :
    Ok (fnAt gl T (k + 1) "_law_draw" [.loc 0, .d (.int m)] S) (fun v S' => ∃ r, v = .d (.int r) ∧ 0 ≤ r ∧ r < m ∧ Deal R S') E0 := by
  obtain ⟨s, x, ns, rfl, hs, hs2, hx, hn⟩ := h
  rw [ok_fn hT, ok_run]
  refine ⟨rfl, ?_⟩
  unfold f_t_draw
  simp only [List.map_cons, List.map_nil, List.length_cons, List.length_nil, List.replicate, List.cons_append, List.nil_append]
  rw [ok_ss]
  have key : ∀ (n : Nat) (s x : Int) (ns : List Int), ns.length = n → 0 ≤ x → (∀ i ∈ ns, 0 ≤ i) → ∀ Q : Fl → Store → Prop, (∀ x ns, 0 ≤ x → (∀ i ∈ ns, 0 ≤ i) → Q (.nx [some (Vl.loc 0), some (Vl.d (PyData.int m)), none, none, none]) (dealS s x ns ++ R)) →
      Ok (evS ⟨gl, fnAt gl T k⟩ (.whl (.band (.cmp .eq (.ix (.var 0) (.cst (.str "number"))) (.cst (.int 0))) (.cmp .gt (.bi .len (.cons (.ix (.var 0) (.cst (.str "left"))) .nil)) (.cst (.int 0)))) (.cons (.asg (.sub (.var 0) (.cst (.str "number"))) (.mt .pop (.ix (.var 0) (.cst (.str "left"))) .nil)) .nil))
        [some (Vl.loc 0), some (Vl.d (PyData.int m)), none, none, none] (dealS s x ns ++ R)) Q E0 := by
    intro n
    induction n with
    | zero =>
      intro s x ns hl hx hn Q hq
      apply ok_whl
      have : ns = [] := List.length_eq_zero_iff.mp hl
      subst this
      have := hq x [] hx hn
      by_cases h0 : x = 0 <;> simp [h0] at * <;> assumption
    | succ n ih =>
      intro s x ns hl hx hn Q hq
      apply ok_whl
      obtain ⟨ns', i, rfl⟩ : ∃ ns' i, ns = ns' ++ [i] := ⟨ns.dropLast, ns.getLast (by intro z; rw [z] at hl; simp at hl), (List.dropLast_concat_getLast _).symm⟩
      have h1 := ih s i ns' (by simpa using hl) (hn i (by simp)) (fun j hj => hn j (by simp [hj])) Q hq
      have h2 := hq x _ hx hn
      by_cases h0 : x = 0
      · subst h0
        have hp : (0 : Int) < (ns'.length : Int) + 1 := by omega
        simp [hp, Mt.ty]
        exact h1
      · simp [h0]; exact h2
  refine key _ s x ns rfl hx hn _ fun x ns hx hn => ?_
  clear key
  simp
  have dl : ∀ s x ns, 0 ≤ s → s < 2147483647 → 0 ≤ x → (∀ i ∈ ns, 0 ≤ i) → Deal R (dealS s x ns ++ R) := fun s x ns h1 h2 h3 h4 => ⟨s, x, ns, rfl, h1, h2, h3, h4⟩
  split
  · exact ⟨fun _ _ => ⟨fun _ => ⟨Int.emod_nonneg _ (by omega), Int.emod_lt_of_pos _ hm, dl _ _ _ hs hs2 (Int.ediv_nonneg hx (by omega)) hn⟩, hm⟩, hm, hm2⟩
  · have a1 := Int.emod_nonneg (s * 48271 + 5003) (show (2147483647 : Int) ≠ 0 by decide)
    have a2 := Int.emod_lt_of_pos (s * 48271 + 5003) (show (0 : Int) < 2147483647 by decide)
    generalize (s * 48271 + 5003) % 2147483647 = a at *
    have b1 := Int.emod_nonneg (a * 39373 + 60013) (show (2147483587 : Int) ≠ 0 by decide)
    have b2 := Int.emod_lt_of_pos (a * 39373 + 60013) (show (0 : Int) < 2147483587 by decide)
    generalize (a * 39373 + 60013) % 2147483587 = b at *
    exact ⟨fun _ _ => ⟨fun _ _ => ⟨fun _ => ⟨Int.emod_nonneg _ (by omega), Int.emod_lt_of_pos _ hm, dl _ _ _ b1 (by omega) hx hn⟩, hm⟩, by omega, by omega⟩, by omega, by omega⟩
theorem tdeal_ok {gl : Str → Option PyData} {T : List (Str × Fd)} {k : Nat} {zs : List Int} {b : Nat} (hT : T.lookup ("_law_deal" : Str) = some f_t_deal) (hz : zs.length ≤ 63) (hb : b < 1000) :
    Ok (fnAt gl T (k + 1) "_law_deal" [.scr zs, .d (.int (b : Int))] []) (fun v S' => v = .loc 0 ∧ Deal [] S') E0 := by
  rw [ok_fn hT, ok_run]
  refine ⟨rfl, ?_⟩
  unfold f_t_deal
  simp only [List.map_cons, List.map_nil, List.length_cons, List.length_nil, List.replicate, List.cons_append, List.nil_append]
  simp [-List.map_map]
  have hsz : sizeLine = 16777216 := rfl
  have hc := cutL_len zs (some (b : Int)) (some 63)
  refine ⟨fun _ => ?_, by omega⟩
  refine comp_full (J := fun S => S = []) (p := fun d => ∃ i : Int, d = .int i ∧ 0 ≤ i) (by simp; omega) (fun x hx S hS => ?_) rfl fun ds S' hd hlen hS => ?_
  · subst hS
    obtain ⟨d, hd, rfl⟩ := List.mem_map.mp hx
    obtain ⟨i, _, rfl⟩ := List.mem_map.mp hd
    simp [wipeR]
    split <;> omega
  · subst hS
    obtain ⟨is, rfl, his⟩ := typed hd
    simp only [List.length_map] at hlen
    simp [-List.map_map]
    refine ⟨fun _ => ?_, by omega⟩
    refine ok_for (I := fun r ρ S => S = [] ∧ (∀ x ∈ r, ∃ i : Int, x = .d (.int i)) ∧ ∃ (n : Int) (o : Option Vl), 0 ≤ n ∧ n < 2147483647 ∧ ρ = [some (Vl.scr zs), some (Vl.d (PyData.int ↑b)), some (Vl.d (PyData.list (List.map PyData.int is))), some (Vl.d (PyData.int n)), o]) (fun x r ρ S h => ?_) (fun ρ S h => ?_) _ _ _ ⟨rfl, fun x hx => ?_, _, _, ?_, ?_, rfl⟩
    · obtain ⟨rfl, h1, n, o, n1, n2, rfl⟩ := h
      obtain ⟨i, rfl⟩ := h1 x (by simp)
      refine ⟨trivial, ?_⟩
      simp
      refine ⟨fun y hy => h1 y (by simp [hy]), Int.emod_nonneg _ (by decide), Int.emod_lt_of_pos _ (by decide)⟩
    · obtain ⟨rfl, h1, n, o, n1, n2, rfl⟩ := h
      refine ⟨trivial, ?_⟩
      simp [-List.map_map]
      refine comp_each (J := fun S => S = [.dk []]) (p := fun d => ∃ i : Int, d = .int i ∧ 0 ≤ i) (by simp; omega) (fun x hx S hS => ?_) rfl fun ds S' hd hlen hS => ?_
      · subst hS
        obtain ⟨d, hd, rfl⟩ := List.mem_map.mp hx
        obtain ⟨i, hi, rfl⟩ := List.mem_map.mp hd
        have := his i hi
        simp [wipeR]
        exact fun _ => this
      · subst hS
        obtain ⟨js, rfl, hjs⟩ := typed hd
        simp only [List.length_map] at hlen
        simp [-List.map_map]
        refine ⟨fun _ => ?_, by omega⟩
        rw [← List.map_reverse, ← List.map_reverse]
        simp [-List.map_map]
        refine ⟨fun _ => ?_, by omega⟩
        rw [disp_eq (by rfl) (by rfl) (by decide)]
        refine ⟨rfl, n, 0, js.reverse, ?_, n1, n2, by omega, fun i hi => hjs i (by simpa using hi)⟩
        simp [dealS]
    · obtain ⟨d, hd, rfl⟩ := List.mem_map.mp hx
      obtain ⟨i, hi, rfl⟩ := List.mem_map.mp hd
      exact ⟨i, rfl⟩
    · omega
    · omega
end DL

namespace DL
open PySem PySem.Spec PyProof.Rows L2
def f_t_names : Fd := ⟨["_law_deal_here", "_law_many"], ["_law_deal_here", "_law_many", "_law_letters", "_law_kept", "_law_core", "_law_at", "_law_turn", "_law_found", "_law_k", "_law_name"],
 (.cons (.asg (.tg (.nm 2)) (.cst (.str "abcdefghijklmnopqrstuvwxyz")))
 (.cons (.asg (.tg (.nm 3)) (.tup (.cons (.cst (.str "place")) (.cons (.cst (.str "letter")) (.cons (.cst (.str "rule")) (.cons (.cst (.str "own")) (.cons (.cst (.str "arrow")) (.cons (.cst (.str "ends")) (.cons (.cst (.str "one")) (.cons (.cst (.str "other")) .nil))))))))))
 (.cons (.asg (.tg (.nm 4)) (.mt .join (.cst (.str "")) (.cons (.comp false [("_law_k", 8)] (.nm 8) (.rng1 (.call false "_law_draw" (.cons (.var 0) (.cons (.cst (.int 5)) .nil)))) .no (.ix (.var 2) (.call false "_law_draw" (.cons (.var 0) (.cons (.cst (.int 26)) .nil))))) .nil)))
 (.cons (.asg (.tg (.nm 5)) (.call false "_law_draw" (.cons (.var 0) (.cons (.bin (.add false) (.bi .len (.cons (.var 4) .nil)) (.cst (.int 1))) .nil))))
 (.cons (.asg (.tg (.nm 6)) (.call false "_law_draw" (.cons (.var 0) (.cons (.cst (.int 26)) .nil))))
 (.cons (.asg (.tg (.nm 7)) (.lst true .nil))
 (.cons (.fr (.nm 8) (.rng1 (.var 1))
 (.cons (.asg (.tg (.nm 9)) (.bin (.add false) (.bin (.add false) (.sl false (.var 4) .no (.yes (.var 5))) (.ix (.var 2) (.bin .mod (.bin (.add false) (.var 6) (.bin .mul (.cst (.int 7)) (.var 8))) (.cst (.int 26))))) (.sl false (.var 4) (.yes (.var 5)) .no)))
 (.cons (.expr (.mt .append (.var 7) (.cons (.bin (.add false) (.var 9) (.bin .mul (.cst (.str "q")) (.bi .int (.cons (.cmp .isin (.var 9) (.var 3)) .nil)))) .nil)))
 .nil)))
 (.cons (.ret (.frz (.var 7)))
 .nil))))))))⟩

section
variable {gl : Str → Option PyData} {T : List (Str × Fd)} {k : Nat} {R S : Store}
def abcL : List Nat := ("abcdefghijklmnopqrstuvwxyz" : Str).cps.toList
/-- the letter of the i-th name -/
def chN (tn : Int) (i : Nat) : Nat := abcL.getD ((tn + 7 * (i : Int)) % 26).toNat 0
theorem abc_inj : ∀ a, a < 26 → ∀ b, b < 26 → abcL.getD a 0 = abcL.getD b 0 → a = b := by decide
theorem chN_inj {tn : Int} {i j : Nat} (hi : i < 26) (hj : j < 26) (h : chN tn i = chN tn j) : i = j := by
  have := abc_inj ((tn + 7 * (i : Int)) % 26).toNat (by omega) ((tn + 7 * (j : Int)) % 26).toNat (by omega) h
  omega
def nmT (a b : Str) (tn : Int) (i : Nat) : Str := a ++ ⟨#[chN tn i]⟩ ++ b
theorem str_ext {a b : Str} (h : a.cps.toList = b.cps.toList) : a = b := by
  obtain ⟨a⟩ := a
  obtain ⟨b⟩ := b
  exact congrArg Str.mk (Array.toList_inj.mp h)
theorem str_app {a b : Str} : (a ++ b).cps.toList = a.cps.toList ++ b.cps.toList := by
  show (a.cps ++ b.cps).toList = _
  exact Array.toList_append
theorem nmT_inj {a b : Str} {tn : Int} {i j : Nat} (hi : i < 26) (hj : j < 26) (h : nmT a b tn i = nmT a b tn j) : i = j := by
  have h := congrArg (fun z : Str => z.cps.toList) h
  simp only [nmT, str_app, List.append_assoc] at h
  have h := List.append_cancel_left h
  simp only [List.cons_append, List.nil_append, List.cons.injEq] at h
  exact chN_inj hi hj h.1
theorem nmT_len {a b : Str} {tn : Int} {i : Nat} : (nmT a b tn i).length = a.length + 1 + b.length := by
  unfold nmT
  simp only [slen_app, len_one]
def keptD : List PyData := [.str "place", .str "letter", .str "rule", .str "own", .str "arrow", .str "ends", .str "one", .str "other"]
def nmF (a b : Str) (tn : Int) (i : Nat) : Str := nmT a b tn i ++ (if (keptD.any fun z => PyData.eqv z (.str (nmT a b tn i))) = true then Str.ofString "q" else Str.empty)
theorem nmF_inj {a b : Str} {tn : Int} {i j : Nat} (hi : i < 26) (hj : j < 26) (h : nmF a b tn i = nmF a b tn j) : i = j := by
  have hl := congrArg Str.length h
  unfold nmF at h hl
  have eq1 : (Str.ofString "q").length = 1 := rfl
  have eq0 : Str.empty.length = 0 := rfl
  by_cases c : (keptD.any fun z => PyData.eqv z (.str (nmT a b tn i))) = true <;> by_cases d : (keptD.any fun z => PyData.eqv z (.str (nmT a b tn j))) = true
  · rw [if_pos c, if_pos d] at h
    have h := congrArg (fun z : Str => z.cps.toList) h
    simp only [str_app] at h
    exact nmT_inj hi hj (str_ext (List.append_cancel_right h))
  · rw [if_pos c, if_neg d, slen_app, slen_app, nmT_len, nmT_len, eq1, eq0] at hl; omega
  · rw [if_neg c, if_pos d, slen_app, slen_app, nmT_len, nmT_len, eq1, eq0] at hl; omega
  · rw [if_neg c, if_neg d] at h
    have h := congrArg (fun z : Str => z.cps.toList) h
    simp only [str_app] at h
    exact nmT_inj hi hj (str_ext (List.append_cancel_right h))
theorem tnames_ok {n : Int} (hD : T.lookup ("_law_draw" : Str) = some f_t_draw) (hT : T.lookup ("_law_names" : Str) = some f_t_names) (h : Deal R S) (h0 : 0 ≤ n) (h1 : n ≤ 26) :
    Ok (fnAt gl T (k + 2) "_law_names" [.loc 0, .d (.int n)] S) (fun v S' => ∃ zs : List Str, v = .d (.list (zs.map .str)) ∧ (zs.length : Int) = n ∧ (∀ z ∈ zs, nmOk z) ∧ zs.Nodup ∧ Deal (R ++ [.dead]) S') E0 := by
  have sz := sz_eq
  have hDk : ∀ {R S m}, Deal R S → 0 < m → m < 1073741824 → Ok (fnAt gl T (k + 1) "_law_draw" [.loc 0, .d (.int m)] S) (fun v S' => ∃ r, v = .d (.int r) ∧ 0 ≤ r ∧ r < m ∧ Deal R S') E0 := fun h h1 h2 => tdraw_ok hD h h1 h2
  have el : ("abcdefghijklmnopqrstuvwxyz" : Str).length ≤ sizeLine := by decide
  have ok1 : PyData.strOk ("abcdefghijklmnopqrstuvwxyz" : Str) = true := by decide +kernel
  rw [ok_fn hT, ok_run]
  refine ⟨rfl, ?_⟩
  unfold f_t_names
  simp [-List.map_map]
  refine (hDk h (by decide) (by decide)).imp0 fun v S1 ⟨r, e, r0, r1, h2⟩ => ?_
  subst e
  simp [-List.map_map]
  refine ⟨fun _ _ => ?_, by omega, by omega⟩
  refine comp_full (J := Deal R) (p := fun d => ∃ z, d = .str z ∧ z.length ≤ 1 ∧ PyData.strOk z = true) (by simp; rw [sz]; omega) (fun x hx S hS => ?_) h2 fun ds S' hd hlen hS => ?_
  · obtain ⟨i, hi, rfl⟩ := List.mem_map.mp hx
    simp [wipeR]
    refine (hDk hS (by decide) (by decide)).imp0 fun v S' ⟨r, e, r0, r1, hS'⟩ => ?_
    subst e
    obtain ⟨c, e, hc⟩ := atI_mem2 (xs := ("abcdefghijklmnopqrstuvwxyz" : Str).cps.toList) r0 (by exact r1)
    simp [e, el, hS', len_one, strOk_one ok1 hc]
  · obtain ⟨zs, rfl, hz⟩ := typed hd
    have s1 := sum_le fun z hz' => (hz z hz').1
    simp at hlen
    have e0 : (Str.ofString "").length = 0 := rfl
    have hj := join_len (z := (Str.ofString "")) (ys := zs)
    have oj : PyData.strOk (Txt.join (Str.ofString "") zs) = true := strOk_join (by decide +kernel) fun y hy => (hz y hy).2
    have c1 : zs.length ≤ sizeLine := by omega
    have c2 : (zs.map (fun y : Str => y.length)).sum + zs.length * (Str.ofString "").length ≤ 16777216 := by rw [e0]; omega
    rw [e0] at hj
    generalize hcore : Txt.join (Str.ofString "") zs = core at *
    have c3 : core.length ≤ 4 := by omega
    have c4 : core.length ≤ sizeLine := by omega
    simp [-List.map_map, c1, c2, hcore, c4]
    refine (hDk hS (by omega) (by omega)).imp0 fun v S2 ⟨at_, e, a0, a1, h3⟩ => ?_
    subst e
    (try simp [-List.map_map])
    refine (hDk h3 (by omega) (by omega)).imp0 fun v S3 ⟨tn, e, t0, t1, h4⟩ => ?_
    subst e
    (try simp [-List.map_map, h4.len])
    refine ⟨fun _ _ => ?_, by omega, by omega⟩
    generalize hA : cutS core none (some at_) = A
    generalize hB : cutS core (some at_) none = B
    have lA : A.length ≤ 4 := by rw [← hA]; exact Nat.le_trans cutS_len c3
    have lB : B.length ≤ 4 := by rw [← hB]; exact Nat.le_trans cutS_len c3
    have oA : PyData.strOk A = true := by rw [← hA]; exact strOk_cut oj
    have oB : PyData.strOk B = true := by rw [← hB]; exact strOk_cut oj
    refine ok_for (I := fun r ρ S => ∃ i : Nat, r = ((List.range n.toNat).drop i).map (fun j : Nat => Vl.d (.int ((0 : Int) + (j : Int)))) ∧ i ≤ n.toNat ∧ Deal (R ++ [.lst (((List.range i).map fun j => PyData.str (nmF A B tn j)).map .d)]) S ∧ ∃ o1 o2, ρ = [some (Vl.loc 0), some (Vl.d (PyData.int n)), some (Vl.d (PyData.str "abcdefghijklmnopqrstuvwxyz")), some (Vl.d (.tuple keptD)), some (Vl.d (PyData.str core)), some (Vl.d (PyData.int at_)), some (Vl.d (PyData.int tn)), some (Vl.loc (R.length + 2)), o1, o2]) (fun x r ρ S h => ?_) (fun ρ S h => ?_) _ _ _ ⟨0, by simp, Nat.zero_le _, by simpa using h4.push _, none, none, rfl⟩
    · obtain ⟨i, e1, hi, hS, o1, o2, rfl⟩ := h
      have hlt : i < n.toNat := by
        by_cases c : i < n.toNat
        · exact c
        · rw [List.drop_eq_nil_of_le (by simp; omega)] at e1; cases e1
      rw [List.drop_eq_getElem_cons (by simpa using hlt), List.map_cons] at e1
      simp only [List.getElem_range, Int.zero_add, List.cons.injEq] at e1
      obtain ⟨rfl, rfl⟩ := e1
      refine ⟨trivial, ?_⟩
      have m1 := Int.emod_nonneg (tn + 7 * (i : Int)) (show (26 : Int) ≠ 0 by decide)
      have m2 := Int.emod_lt_of_pos (tn + 7 * (i : Int)) (show (0 : Int) < 26 by decide)
      obtain ⟨c, ec, ec2⟩ := atI_some (xs := ("abcdefghijklmnopqrstuvwxyz" : Str).cps.toList) m1 (by exact m2)
      have hcc : c = chN tn i := by unfold chN abcL; rw [List.getD_eq_getElem?_getD, ec2]; rfl
      have hcm := List.mem_of_getElem? ec2
      have q1 : A.length + 1 ≤ sizeLine := by omega
      have q2 : A.length + 1 + B.length ≤ sizeLine := by omega
      simp [-List.map_map, ec, el, c4, hA, hB, q1, q2, len_one]
      have enm : A ++ ⟨#[c]⟩ ++ B = nmT A B tn i := by rw [hcc]; rfl
      rw [enm]
      have okn : PyData.strOk (nmT A B tn i) = true := by rw [← enm]; exact strOk_app (strOk_app oA (strOk_one ok1 hcm)) oB
      have ln : (nmT A B tn i).length = A.length + 1 + B.length := nmT_len
      have eq1 : (Str.ofString "q").length = 1 := rfl
      have eq0 : Str.empty.length = 0 := rfl
      have fin : ∀ nm : Str, nm = nmF A B tn i → Ok (mtV Mt.append (Vl.loc (R.length + 2)) [Vl.d (PyData.str nm)] S) (fun a S' => Deal (R ++ [.lst (((List.range (i + 1)).map fun j => PyData.str (nmF A B tn j)).map .d)]) S') E0 := fun nm e => by
        rw [app_eq hS.last (by simp; omega), e]
        have := hS.putLast (.lst (((List.range (i + 1)).map fun j => PyData.str (nmF A B tn j)).map Vl.d))
        rw [List.range_succ] at this ⊢
        simpa using this
      refine ⟨fun _ => ?_, isTy_loc hS.last⟩
      rw [cmp_inT (by simp [PyData.depth])]
      have key : ∀ b : Bool, b = (keptD.any fun z => PyData.eqv z (.str (nmT A B tn i))) → nmT A B tn i ++ (if b = true then Str.ofString "q" else Str.empty) = nmF A B tn i := fun b e => by rw [e]; rfl
      generalize hb : (keptD.any fun z => PyData.eqv z (.str (nmT A B tn i))) = b at key ⊢
      have c5 : (nmT A B tn i).length + 1 ≤ sizeLine := by omega
      have c6 : (nmT A B tn i).length + 0 ≤ sizeLine := by omega
      cases b with
      | true =>
        simp [-List.map_map, eq1, c5]
        refine (fin _ (key true rfl)).imp0 fun v S' h => ?_
        exact ⟨i + 1, rfl, by omega, h⟩
      | false =>
        simp [-List.map_map, eq0]
        refine ⟨fun _ => (fin _ (key false rfl)).imp0 fun v S' h => ?_, by omega⟩
        exact ⟨i + 1, rfl, by omega, h⟩
    · obtain ⟨i, e1, hi, hS, o1, o2, rfl⟩ := h
      have hlt : i = n.toNat := by
        by_cases c : i < n.toNat
        · rw [List.drop_eq_getElem_cons (by simpa using c)] at e1; cases e1
        · omega
      subst hlt
      refine ⟨trivial, ?_⟩
      have e3 : ((List.range n.toNat).map fun j => PyData.str (nmF A B tn j)) = ((List.range n.toNat).map (nmF A B tn)).map .str := by rw [List.map_map]; rfl
      simp [-List.map_map, frz_loc hS.last]
      refine ⟨(List.range n.toNat).map (nmF A B tn), e3, by simp; omega, fun z hz => ?_, ?_, hS.putLast _⟩
      · obtain ⟨j, hj, rfl⟩ := List.mem_map.mp hz
        have hj := List.mem_range.mp hj
        have a1 : abcL.getD ((tn + 7 * (j : Int)) % 26).toNat 0 ∈ ("abcdefghijklmnopqrstuvwxyz" : Str).cps.toList := by
          have : ∀ a, a < 26 → abcL.getD a 0 ∈ ("abcdefghijklmnopqrstuvwxyz" : Str).cps.toList := by decide
          exact this _ (by omega)
        have okn : PyData.strOk (nmT A B tn j) = true := strOk_app (strOk_app oA (strOk_one ok1 a1)) oB
        have ln : (nmT A B tn j).length = A.length + 1 + B.length := nmT_len
        have eq1 : (Str.ofString "q").length = 1 := rfl
        have eq0 : Str.empty.length = 0 := rfl
        unfold nmF nmOk
        split
        · exact ⟨strOk_app okn (by decide +kernel), by rw [slen_app]; omega⟩
        · exact ⟨strOk_app okn (by decide +kernel), by rw [slen_app]; omega⟩
      · refine List.pairwise_map.mpr (List.Pairwise.imp_of_mem (fun {a b} ha hb h e => ?_) (List.nodup_range (n := n.toNat)))
        have ha := List.mem_range.mp ha
        have hb := List.mem_range.mp hb
        exact h (nmF_inj (by omega) (by omega) e)
end
end DL

namespace DL
open PySem PySem.Spec PyProof.Rows L2
def f_t_rule : Fd := ⟨["_law_deal_here", "_law_sizes", "_law_found"], ["_law_deal_here", "_law_sizes", "_law_found", "_law_word", "_law_places", "_law_letters", "_law_most", "_law_p", "_law_x", "_law_q", "_law_k", "_law_rule_here"],
 (.cons (.asg (.tg (.tp (.cons (.nm 4) (.cons (.nm 5) (.cons (.nm 6) .nil))))) (.var 1))
 (.cons (.asg (.tg (.nm 3)) (.ix (.lst false (.cons (.cst (.int 0)) (.cons (.cst (.int 0)) (.cons (.cst (.int 1)) (.cons (.cst (.int 1)) (.cons (.cst (.int 1)) (.cons (.cst (.int 2)) (.cons (.cst (.int 2)) (.cons (.cst (.int 2)) .nil))))))))) (.call false "_law_draw" (.cons (.var 0) (.cons (.cst (.int 8)) .nil)))))
 (.cons (.ife (.band (.cmp .eq (.var 3) (.cst (.int 2))) (.cmp .ge (.bi .len (.cons (.comp false [("_law_rule_here", 11)] (.nm 11) (.val (.var 2)) (.yes (.cmp .eq (.bi .len (.cons (.ix (.var 11) (.cst (.int 3))) .nil)) (.cst (.int 2)))) (.var 11)) .nil)) (.var 6)))
 (.cons (.asg (.tg (.nm 3)) (.cst (.int 1)))
 .nil)
 .nil)
 (.cons (.par [7, 8, 9] (.cons (.call false "_law_draw" (.cons (.var 0) (.cons (.var 4) .nil))) (.cons (.call false "_law_draw" (.cons (.var 0) (.cons (.var 5) .nil))) (.cons (.call false "_law_draw" (.cons (.var 0) (.cons (.var 4) .nil))) .nil))))
 (.cons (.ret (.tup (.cons (.var 7) (.cons (.var 8) (.cons (.var 9) (.cons (.bi .tuple (.cons (.comp false [("_law_k", 10)] (.nm 10) (.rng1 (.var 3)) .no (.call false "_law_draw" (.cons (.var 0) (.cons (.var 5) .nil)))) .nil)) .nil))))))
 .nil)))))⟩
def f_t_rules : Fd := ⟨["_law_deal_here", "_law_hands", "_law_letters", "_law_many", "_law_most"], ["_law_deal_here", "_law_hands", "_law_letters", "_law_many", "_law_most", "_law_found", "_law_k", "_law_rule_here", "_law_there", "_law_one"],
 (.cons (.asg (.tg (.nm 5)) (.lst true .nil))
 (.cons (.fr (.nm 6) (.rng1 (.var 3))
 (.cons (.asg (.tg (.nm 7)) (.call false "_law_rule" (.cons (.var 0) (.cons (.tup (.cons (.bi .len (.cons (.var 1) .nil)) (.cons (.var 2) (.cons (.var 4) .nil)))) (.cons (.var 5) .nil)))))
 (.cons (.asg (.tg (.nm 8)) (.bi .len (.cons (.comp false [("_law_one", 9)] (.nm 9) (.val (.var 5)) (.yes (.cmp .eq (.sl false (.var 9) .no (.yes (.cst (.int 2)))) (.sl false (.var 7) .no (.yes (.cst (.int 2)))))) (.var 9)) .nil)))
 (.cons (.ife (.band (.cmp .notin (.var 7) (.var 5)) (.bor (.cmp .eq (.ix (.var 1) (.ix (.var 7) (.cst (.int 0)))) (.cst (.int 0))) (.cmp .lt (.var 8) (.cst (.int 2)))))
 (.cons (.expr (.mt .append (.var 5) (.cons (.var 7) .nil)))
 .nil)
 .nil)
 .nil))))
 (.cons (.ret (.bi .tuple (.cons (.var 5) .nil)))
 .nil)))⟩

section
variable {gl : Str → Option PyData} {T : List (Str × Fd)} {k : Nat} {R S : Store}
instance : DecidableEq Rl := fun ⟨a, b, c, d⟩ ⟨e, f, g, h⟩ => if z : a = e ∧ b = f ∧ c = g ∧ d = h then isTrue (by obtain ⟨rfl, rfl, rfl, rfl⟩ := z; rfl) else isFalse (fun y => z (by cases y; exact ⟨rfl, rfl, rfl, rfl⟩))
def two (r : Rl) : Bool := decide (r.w.length = 2)
def alike2 (r o : Rl) : Bool := decide (o.p = r.p) && decide (o.x = r.x)
/-- a rule that may stand behind others -/
structure MayB (hs : List Int) (most : Int) (ah : List Rl) (r : Rl) : Prop where
  nd : r ∉ ah
  pu : r.w.length = 2 → ((ah.filter two).length : Int) < most
  an : hs.getD r.p.toNat 0 ≠ 0 → (ah.filter (alike2 r)).length < 2
/-- rules made so, one behind another -/
def Built (hs : List Int) (most : Int) (rs : List Rl) : Prop := ∀ i r, rs[i]? = some r → MayB hs most (rs.take i) r
theorem Built.nil {hs : List Int} {most : Int} : Built hs most [] := fun i r h => by simp at h
theorem Built.snoc {hs : List Int} {most : Int} {rs : List Rl} {r : Rl} (h : Built hs most rs) (m : MayB hs most rs r) : Built hs most (rs ++ [r]) := fun i u e => by
  by_cases hi : i < rs.length
  · rw [List.getElem?_append_left hi] at e
    rw [List.take_append_of_le_length (Nat.le_of_lt hi)]
    exact h i u e
  · have hl : i < (rs ++ [r]).length := (List.getElem?_eq_some_iff.mp e).1
    have hi : i = rs.length := by simp at hl; omega
    subst hi
    rw [List.getElem?_append_right (Nat.le_refl _), Nat.sub_self] at e
    cases e
    rw [List.take_append_of_le_length (Nat.le_refl _), List.take_length]
    exact m
theorem rD_inj {r o : Rl} (h : rD r = rD o) : r = o := by
  obtain ⟨p, x, q, w⟩ := r
  obtain ⟨p', x', q', w'⟩ := o
  simp only [rD, PyData.tuple.injEq, List.cons.injEq, PyData.int.injEq, and_true] at h
  obtain ⟨rfl, rfl, rfl, h⟩ := h
  have e : ∀ a b : List Int, a.map PyData.int = b.map PyData.int → a = b := fun a b h => (List.map_inj_right (fun _ _ h => by cases h; rfl)).mp h
  rw [e _ _ h]
theorem trule_ok {P L mo : Int} {rs : List Rl} (hD : T.lookup ("_law_draw" : Str) = some f_t_draw) (hT : T.lookup ("_law_rule" : Str) = some f_t_rule) (h : Deal (R ++ [.lst ((rs.map rD).map .d)]) S) (hr : rs.length ≤ 1000) (p0 : 0 < P) (p1 : P < 1073741824) (l0 : 0 < L) (l1 : L < 1073741824) :
    Ok (fnAt gl T (k + 2) "_law_rule" [.loc 0, .d (.tuple [.int P, .int L, .int mo]), .loc (R.length + 2)] S) (fun v S' => ∃ r : Rl, v = .d (rD r) ∧ rOk P L r ∧ (r.w.length = 2 → ((rs.filter two).length : Int) < mo) ∧ Deal (R ++ [.lst ((rs.map rD).map .d)]) S') E0 := by
  have sz := sz_eq
  have hDk : ∀ {R S m}, Deal R S → 0 < m → m < 1073741824 → Ok (fnAt gl T (k + 1) "_law_draw" [.loc 0, .d (.int m)] S) (fun v S' => ∃ r, v = .d (.int r) ∧ 0 ≤ r ∧ r < m ∧ Deal R S') E0 := fun h h1 h2 => tdraw_ok hD h h1 h2
  have last : ∀ {S}, Deal (R ++ [.lst ((rs.map rD).map .d)]) S → S[R.length + 2]? = some (.lst ((rs.map rD).map .d)) := fun h => h.last
  generalize R ++ [Ob.lst ((rs.map rD).map Vl.d)] = Z at h last ⊢
  rw [ok_fn hT, ok_run]
  refine ⟨rfl, ?_⟩
  unfold f_t_rule
  refine ok_seq (fun ρ S' => S' = S ∧ ρ = [some (.loc 0), some (.d (.tuple [.int P, .int L, .int mo])), some (.loc (R.length + 2)), none, some (.d (.int P)), some (.d (.int L)), some (.d (.int mo)), none, none, none, none, none]) (by simp) ?_
  rintro ρ S' ⟨rfl, rfl⟩
  refine ok_seq (fun ρ S' => Deal Z S' ∧ ∃ n : Int, 0 ≤ n ∧ n ≤ 2 ∧ ρ = [some (.loc 0), some (.d (.tuple [.int P, .int L, .int mo])), some (.loc (R.length + 2)), some (.d (.int n)), some (.d (.int P)), some (.d (.int L)), some (.d (.int mo)), none, none, none, none, none]) ?_ ?_
  · simp [-List.map_map]
    refine (hDk h (by decide) (by decide)).imp0 fun v S1 ⟨r, e, r0, r1, h2⟩ => ?_
    subst e
    obtain ⟨y, ey, hy⟩ := atI_mem2 (xs := [PyData.int 0, PyData.int 0, PyData.int 1, PyData.int 1, PyData.int 1, PyData.int 2, PyData.int 2, PyData.int 2]) r0 (by simpa using r1)
    simp [ey]
    refine ⟨h2, ?_⟩
    simp only [List.mem_cons, List.not_mem_nil, or_false] at hy
    rcases hy with rfl | rfl | rfl | rfl | rfl | rfl | rfl | rfl <;> exact ⟨_, by decide, by decide, rfl⟩
  rintro ρ S1 ⟨h1, n, n0, n2, rfl⟩
  refine ok_seq (fun ρ S' => Deal Z S' ∧ ∃ n : Int, 0 ≤ n ∧ n ≤ 2 ∧ (n = 2 → ((rs.filter two).length : Int) < mo) ∧ ρ = [some (.loc 0), some (.d (.tuple [.int P, .int L, .int mo])), some (.loc (R.length + 2)), some (.d (.int n)), some (.d (.int P)), some (.d (.int L)), some (.d (.int mo)), none, none, none, none, none]) ?_ ?_
  · by_cases c2 : n = 2
    · subst c2
      simp [-List.map_map, src_loc (last h1)]
      have e0 : (rs.map rD).map Vl.d = rs.map fun r => Vl.d (rD r) := by rw [List.map_map]; rfl
      have hg : Src.ok ⟨rs.map fun r => Vl.d (rD r), some (R.length + 2, (rs.map rD).map .d)⟩ S1 := last h1
      rw [e0] at hg ⊢
      refine comp_fmg (g := fun r => if two r = true then some (rD r) else none) hg (by omega) (fun r hr => ?_) ?_
      · obtain ⟨rp, rx, rq, rw_⟩ := r
        by_cases a : rw_.length = 2 <;> simp [wipeR, rD, two, a]
        all_goals (first | omega | skip)
      · have e2 : (rs.filterMap fun r => if two r = true then some (rD r) else none) = (rs.filter two).map rD := fm_cond _ _ _
        have hl : (rs.filter two).length ≤ sizeLine := by have := List.length_filter_le two rs; omega
        rw [e2]
        simp [-List.map_map, hl]
        by_cases c : mo ≤ ((rs.filter two).length : Int)
        · simp [c, h1]
          exact ⟨1, by decide, by decide, fun e => absurd e (by decide), rfl⟩
        · simp [c, h1]
          exact ⟨2, by decide, by decide, fun _ => by omega, rfl⟩
    · simp [c2]
      exact ⟨h1, n, n0, n2, fun e => absurd e c2, rfl⟩
  rintro ρ S2 ⟨h2, n, n0, n2, hn, rfl⟩
  simp [-List.map_map]
  refine (hDk h2 p0 p1).imp0 fun v S3 ⟨p, e, a0, a1, h3⟩ => ?_
  subst e
  (try simp [-List.map_map])
  refine (hDk h3 l0 l1).imp0 fun v S4 ⟨x, e, x0, x1, h4⟩ => ?_
  subst e
  (try simp [-List.map_map])
  refine (hDk h4 p0 p1).imp0 fun v S5 ⟨q, e, q0, q1, h5⟩ => ?_
  subst e
  simp [-List.map_map, setAll]
  refine ⟨fun _ _ => ?_, by omega, by omega⟩
  refine comp_full (J := Deal Z) (p := fun d => ∃ i : Int, d = .int i ∧ 0 ≤ i ∧ i < L) (by simp; omega) (fun x hx S hS => ?_) h5 fun ds S' hd hlen hS => ?_
  · obtain ⟨i, hi, rfl⟩ := List.mem_map.mp hx
    simp [wipeR]
    refine (hDk hS l0 l1).imp0 fun v S' ⟨r, e, r0, r1, hS'⟩ => ?_
    subst e
    exact ⟨hS', _, rfl, _, rfl, r0, r1⟩
  · obtain ⟨ws, rfl, hw⟩ := typed hd
    simp at hlen
    have c : ws.length ≤ sizeLine := by omega
    simp [-List.map_map, c]
    exact ⟨⟨p, x, q, ws⟩, rfl, ⟨a0, a1, x0, x1, q0, q1, by dsimp only; omega, hw⟩, fun e => hn (by dsimp only at e; omega), hS⟩
theorem prule_depth2 (r : Rl) : (rD r).depth ≤ 64 := by
  simp [rD, PyData.depth, PyData.depthAll, PySem.W.depth_ints]
theorem eqv_ints : ∀ {a b : List Int}, PyData.eqvAll (a.map .int) (b.map .int) = decide (a = b)
  | [], [] => rfl
  | [], _ :: _ => by simp [PyData.eqvAll]
  | _ :: _, [] => by simp [PyData.eqvAll]
  | x :: a, y :: b => by
    simp only [List.map_cons, PyData.eqvAll, PyData.eqv, eqv_ints (a := a) (b := b)]
    by_cases h1 : x = y <;> by_cases h2 : a = b <;> simp [h1, h2]
theorem eqv_rD {r o : Rl} : PyData.eqv (rD r) (rD o) = decide (r = o) := by
  obtain ⟨p, x, q, w⟩ := r
  obtain ⟨p', x', q', w'⟩ := o
  simp only [rD, PyData.eqv, PyData.eqvAll, eqv_ints]
  by_cases h1 : p = p' <;> by_cases h2 : x = x' <;> by_cases h3 : q = q' <;> by_cases h4 : w = w' <;> simp [h1, h2, h3, h4]
theorem any_rD {rs : List Rl} {u : Rl} : ((rs.map rD).any fun z => PyData.eqv z (rD u)) = decide (u ∈ rs) := by
  induction rs with
  | nil => simp
  | cons r rs ih =>
    rw [List.map_cons, List.any_cons, ih, eqv_rD]
    by_cases h : r = u
    · simp [h]
    · have h' : ¬ u = r := fun e => h e.symm
      simp [h, h']
def TRI (R : Store) (hs : List Int) (L many most : Int) (r : List Vl) (ρ : Rho) (S : Store) : Prop := (∀ x ∈ r, ∃ i : Nat, x = .d (.int (i : Int))) ∧ ∃ rs : List Rl, (rs.length + r.length : Int) ≤ many ∧ (∀ u ∈ rs, rOk hs.length L u) ∧ Built hs most rs ∧ Deal (R ++ [.lst ((rs.map rD).map .d)]) S ∧ ∃ (o1 o2 o3 o4 : Option Vl), ρ = [some (.loc 0), some (.d (.list (hs.map .int))), some (.d (.int L)), some (.d (.int many)), some (.d (.int most)), some (.loc (R.length + 2)), o1, o2, o3, o4]
theorem trules_ok {L many most : Int} {hs : List Int} (hD : T.lookup ("_law_draw" : Str) = some f_t_draw) (hR' : T.lookup ("_law_rule" : Str) = some f_t_rule) (hT : T.lookup ("_law_rules" : Str) = some f_t_rules) (h : Deal R S) (hh : ∀ i ∈ hs, 0 ≤ i ∧ i < 2) (p0 : 1 ≤ hs.length) (p1 : hs.length ≤ 100) (l0 : 0 < L) (l1 : L < 1073741824) (m0 : 0 ≤ many) (m1 : many ≤ 100) :
    Ok (fnAt gl T (k + 3) "_law_rules" [.loc 0, .d (.list (hs.map .int)), .d (.int L), .d (.int many), .d (.int most)] S) (fun v S' => ∃ rs : List Rl, v = .d (.tuple (rs.map rD)) ∧ (rs.length : Int) ≤ many ∧ (∀ u ∈ rs, rOk hs.length L u) ∧ Built hs most rs ∧ ∃ o, Deal (R ++ [o]) S') E0 := by
  have sz := sz_eq
  rw [ok_fn hT, ok_run]
  refine ⟨rfl, ?_⟩
  unfold f_t_rules
  refine ok_seq (fun ρ S' => S' = S ++ [.lst []] ∧ ρ = [some (.loc 0), some (.d (.list (hs.map .int))), some (.d (.int L)), some (.d (.int many)), some (.d (.int most)), some (.loc (R.length + 2)), none, none, none, none]) (by simp [-List.map_map, h.len]) ?_
  rintro ρ S' ⟨rfl, rfl⟩
  simp [-List.map_map]
  refine ⟨fun _ _ => ?_, by omega, by omega⟩
  refine ok_for (I := TRI R hs L many most) (fun x r ρ S h => ?_) (fun ρ S h => ?_) _ _ _ ⟨fun x hx => ?_, [], by simp; omega, by simp, .nil, h.push _, none, none, none, none, rfl⟩
  · obtain ⟨hi, rs, hl, hr, hB, hS, o1, o2, o3, o4, rfl⟩ := h
    obtain ⟨i, rfl⟩ := hi x (by simp)
    simp only [List.length_cons] at hl
    refine ⟨trivial, ?_⟩
    refine (ok_frB).mpr ⟨_, rfl, ?_⟩
    refine ok_seq (fun ρ S => Deal (R ++ [.lst ((rs.map rD).map .d)]) S ∧ ∃ u : Rl, rOk hs.length L u ∧ (u.w.length = 2 → ((rs.filter two).length : Int) < most) ∧ ρ = [some (.loc 0), some (.d (.list (hs.map .int))), some (.d (.int L)), some (.d (.int many)), some (.d (.int most)), some (.loc (R.length + 2)), some (.d (.int (i : Int))), some (.d (rD u)), o3, o4]) ?_ ?_
    · simp [-List.map_map]
      refine (trule_ok (k := k) hD hR' hS (by omega) (by omega) (by omega) l0 l1).imp0 fun v S5 ⟨u, e, hu, hp, h5⟩ => ?_
      subst e
      (try simp [-List.map_map])
      exact ⟨h5, u, hu, hp, rfl⟩
    rintro ρ S6 ⟨h6, u, hu, hp, rfl⟩
    have hrl : (List.map Vl.d (List.map rD rs)).length = rs.length := by simp
    refine ok_seq (fun ρ S => S = S6 ∧ ρ = [some (.loc 0), some (.d (.list (hs.map .int))), some (.d (.int L)), some (.d (.int many)), some (.d (.int most)), some (.loc (R.length + 2)), some (.d (.int (i : Int))), some (.d (rD u)), some (.d (.int ((rs.filter (alike2 u)).length))), o4]) ?_ ?_
    · simp [-List.map_map, src_loc h6.last]
      have e0 : (rs.map rD).map Vl.d = rs.map fun r => Vl.d (rD r) := by rw [List.map_map]; rfl
      have hg : Src.ok ⟨rs.map fun r => Vl.d (rD r), some (R.length + 2, (rs.map rD).map .d)⟩ S6 := h6.last
      rw [e0] at hg ⊢
      refine comp_fmg (g := fun r => if alike2 u r = true then some (rD r) else none) hg (by omega) (fun r hr => ?_) ?_
      · obtain ⟨rp, rx, rq, rw_⟩ := r
        have nr : near (PyData.tuple [PyData.int rp, PyData.int rx]) (PyData.tuple [PyData.int u.p, PyData.int u.x]) = true := near_of (by simp [PyData.depth, PyData.depthAll])
        simp [wipeR, rD, cut2, cmp_eqd nr, PyData.eqv, PyData.eqvAll, alike2]
      · have e2 : (rs.filterMap fun r => if alike2 u r = true then some (rD r) else none) = (rs.filter (alike2 u)).map rD := fm_cond _ _ _
        have hl : (rs.filter (alike2 u)).length ≤ sizeLine := by have := List.length_filter_le (alike2 u) rs; omega
        rw [e2]
        simp [-List.map_map, hl]
    rintro ρ S7 ⟨rfl, rfl⟩
    obtain ⟨hb, ehb, ehb2⟩ := atI_some (xs := hs.map PyData.int) hu.1 (by simpa using hu.2.1)
    obtain ⟨hbi, ehb3, rfl⟩ : ∃ i, hs[u.p.toNat]? = some i ∧ hb = .int i := by
      rw [List.getElem?_map] at ehb2
      cases e : hs[u.p.toNat]? with
      | none => rw [e] at ehb2; cases ehb2
      | some i => rw [e] at ehb2; cases ehb2; exact ⟨i, rfl, rfl⟩
    have ni := ni_loc (a := rD u) h6.last (prule_depth2 u)
    have emem : ((rs.map rD).any fun z => PyData.eqv z (rD u)) = decide (u ∈ rs) := any_rD
    rw [emem] at ni
    have eap := app_eq (x := .d (rD u)) h6.last (by rw [hrl]; omega)
    have keep : ∀ o, TRI R hs L many most r [some (.loc 0), some (.d (.list (hs.map .int))), some (.d (.int L)), some (.d (.int many)), some (.d (.int most)), some (.loc (R.length + 2)), some (.d (.int (i : Int))), some (.d (rD u)), some (.d (.int ((rs.filter (alike2 u)).length))), o] S7 := fun o => ⟨fun y hy => hi y (by simp [hy]), rs, by omega, hr, hB, h6, _, _, _, _, rfl⟩
    have put : u ∉ rs → (hbi = 0 ∨ (rs.filter (alike2 u)).length < 2) → ∀ o, TRI R hs L many most r [some (.loc 0), some (.d (.list (hs.map .int))), some (.d (.int L)), some (.d (.int many)), some (.d (.int most)), some (.loc (R.length + 2)), some (.d (.int (i : Int))), some (.d (rD u)), some (.d (.int ((rs.filter (alike2 u)).length))), o] (S7.set (R.length + 2) (.lst ((rs.map rD).map .d ++ [.d (rD u)]))) := fun n1 n2 o => by
      refine ⟨fun y hy => hi y (by simp [hy]), rs ++ [u], by simp; omega, fun z hz => ?_, hB.snoc ⟨n1, hp, fun e => ?_⟩, ?_, _, _, _, _, rfl⟩
      · rcases List.mem_append.mp hz with h | h
        · exact hr z h
        · rw [List.mem_singleton.mp h]; exact hu
      · rw [List.getD_eq_getElem?_getD, ehb3] at e
        exact n2.resolve_left e
      · have := h6.putLast (.lst (((rs ++ [u]).map rD).map .d))
        simpa using this
    obtain ⟨up, ux, uq, uw⟩ := u
    simp only [rD] at *
    by_cases c1 : (⟨up, ux, uq, uw⟩ : Rl) ∈ rs
    · simp [-List.map_map, ni, c1]
      exact keep _
    · by_cases c2 : hbi = 0
      · subst c2
        simp [-List.map_map, ni, c1, ehb, eap, isTy_loc h6.last]
        exact put c1 (.inl rfl) _
      · by_cases c3 : ((rs.filter (alike2 ⟨up, ux, uq, uw⟩)).length : Int) < 2
        · simp [-List.map_map, ni, c1, ehb, c2, c3, eap, isTy_loc h6.last]
          exact put c1 (.inr (by omega)) _
        · simp [-List.map_map, ni, c1, ehb, c2, c3]
          exact keep _
  · obtain ⟨hi, rs, hl, hr, hB, hS, o1, o2, o3, o4, rfl⟩ := h
    refine ⟨trivial, ?_⟩
    simp [-List.map_map, tup_loc hS.last]
    exact ⟨rs, rfl, by simpa using hl, hr, hB, _, hS⟩
  · obtain ⟨i, hi, rfl⟩ := List.mem_map.mp hx
    exact ⟨i, by simp⟩
end
end DL

namespace DL
open PySem PySem.Spec PyProof.Rows L2
def f_t_game : Fd := ⟨["_law_deal_here", "_law_sizes", "_law_hand"], ["_law_deal_here", "_law_sizes", "_law_hand", "_law_hands", "_law_letters", "_law_rules_here", "_law_k"],
 (.cons (.asg (.tg (.nm 3)) (.comp false [("_law_k", 6)] (.nm 6) (.rng1 (.bin (.add false) (.cst (.int 1)) (.call false "_law_draw" (.cons (.var 0) (.cons (.ix (.var 1) (.cst (.int 0))) .nil))))) .no (.ix (.lst false (.cons (.call false "_law_draw" (.cons (.var 0) (.cons (.cst (.int 2)) .nil))) (.cons (.var 2) .nil))) (.bi .int (.cons (.cmp .lt (.var 2) (.cst (.int 2))) .nil)))))
 (.cons (.asg (.tg (.nm 4)) (.call false "_law_names" (.cons (.var 0) (.cons (.bin (.add false) (.cst (.int 1)) (.call false "_law_draw" (.cons (.var 0) (.cons (.ix (.var 1) (.cst (.int 1))) .nil)))) .nil))))
 (.cons (.asg (.tg (.nm 5)) (.call false "_law_rules" (.cons (.var 0) (.cons (.var 3) (.cons (.bi .len (.cons (.var 4) .nil)) (.cons (.bin (.add false) (.cst (.int 1)) (.call false "_law_draw" (.cons (.var 0) (.cons (.ix (.var 1) (.cst (.int 2))) .nil)))) (.cons (.ix (.var 1) (.cst (.int 3))) .nil)))))))
 (.cons (.ret (.tup (.cons (.zipT (.call false "_law_names" (.cons (.var 0) (.cons (.bi .len (.cons (.var 3) .nil)) .nil))) (.var 3)) (.cons (.bi .tuple (.cons (.var 4) .nil)) (.cons (.var 5) .nil)))))
 .nil))))⟩
def f_t_some : Fd := ⟨["_law_deal_here", "_law_stands", "_law_most"], ["_law_deal_here", "_law_stands", "_law_most", "_law_found", "_law_stand"],
 (.cons (.asg (.tg (.nm 3)) (.comp false [("_law_stand", 4)] (.nm 4) (.val (.var 1)) (.yes (.cmp .eq (.call false "_law_draw" (.cons (.var 0) (.cons (.cst (.int 2)) .nil))) (.cst (.int 1)))) (.var 4)))
 (.cons (.ret (.bi .tuple (.cons (.sl false (.var 3) .no (.yes (.var 2))) .nil)))
 .nil))⟩
def f_t_saying : Fd := ⟨["_law_deal_here", "_law_game_here", "_law_own", "_law_many", "_law_most"], ["_law_deal_here", "_law_game_here", "_law_own", "_law_many", "_law_most", "_law_places", "_law_stands", "_law_arrows", "_law_k", "_law_arrow"],
 (.cons (.asg (.tg (.nm 5)) (.bi .len (.cons (.ix (.var 1) (.cst (.int 0))) .nil)))
 (.cons (.asg (.tg (.nm 6)) (.lrng1 false (.bin (.add false) (.var 5) (.call false "_law_draw" (.cons (.var 0) (.cons (.bin (.add false) (.var 2) (.cst (.int 1))) .nil))))))
 (.cons (.asg (.tg (.nm 7)) (.lst true .nil))
 (.cons (.fr (.nm 8) (.rng1 (.call false "_law_draw" (.cons (.var 0) (.cons (.bin (.add false) (.var 3) (.cst (.int 1))) .nil))))
 (.cons (.asg (.tg (.nm 9)) (.tup (.cons (.call false "_law_draw" (.cons (.var 0) (.cons (.bi .len (.cons (.var 6) .nil)) .nil))) (.cons (.call false "_law_draw" (.cons (.var 0) (.cons (.bi .len (.cons (.ix (.var 1) (.cst (.int 1))) .nil)) .nil))) (.cons (.call false "_law_some" (.cons (.var 0) (.cons (.sl false (.var 6) (.yes (.var 5)) .no) (.cons (.var 4) .nil)))) .nil)))))
 (.cons (.ife (.cmp .notin (.var 9) (.var 7))
 (.cons (.expr (.mt .append (.var 7) (.cons (.var 9) .nil)))
 .nil)
 .nil)
 .nil)))
 (.cons (.ret (.tup (.cons (.bin .sub (.bi .len (.cons (.var 6) .nil)) (.var 5)) (.cons (.bi .tuple (.cons (.bi (.x (.srt false)) (.cons (.var 7) .nil)) .nil)) (.cons (.call false "_law_some" (.cons (.var 0) (.cons (.var 6) (.cons (.bi .len (.cons (.var 6) .nil)) .nil)))) .nil)))))
 .nil)))))⟩
def f_t_pile : Fd := ⟨["_law_deal_here", "_law_game_here", "_law_most"], ["_law_deal_here", "_law_game_here", "_law_most", "_law_k"],
 (.cons (.ret (.bi .tuple (.cons (.comp false [("_law_k", 3)] (.nm 3) (.rng1 (.call false "_law_draw" (.cons (.var 0) (.cons (.bin (.add false) (.var 2) (.cst (.int 1))) .nil)))) .no (.call false "_law_draw" (.cons (.var 0) (.cons (.bi .len (.cons (.ix (.var 1) (.cst (.int 1))) .nil)) .nil)))) .nil)))
 .nil)⟩

section
variable {gl : Str → Option PyData} {T : List (Str × Fd)} {k : Nat} {R S : Store}
/-- the dice lie below -/
def DX (R S : Store) : Prop := ∃ X, Deal (R ++ X) S
/-- the generator's own defs in the table -/
structure TOk (T : List (Str × Fd)) : Prop where
  dr : T.lookup ("_law_draw" : Str) = some f_t_draw
  nm : T.lookup ("_law_names" : Str) = some f_t_names
  rl : T.lookup ("_law_rule" : Str) = some f_t_rule
  rs : T.lookup ("_law_rules" : Str) = some f_t_rules
theorem TOk.draw (t : TOk T) {R S : Store} {m : Int} (h : Deal R S) (h0 : 0 < m) (h1 : m < 1073741824) : Ok (fnAt gl T (k + 1) "_law_draw" [.loc 0, .d (.int m)] S) (fun v S' => ∃ r, v = .d (.int r) ∧ 0 ≤ r ∧ r < m ∧ Deal R S') E0 := tdraw_ok t.dr h h0 h1
theorem tgame_ok {a b c d hand : Int} (t : TOk T) (hT : T.lookup ("_law_game" : Str) = some f_t_game) (h : Deal R S) (a0 : 1 ≤ a) (a1 : a ≤ 3) (b0 : 1 ≤ b) (b1 : b ≤ 3) (c0 : 1 ≤ c) (c1 : c ≤ 8) (hd : 0 ≤ hand ∧ hand ≤ 2) :
    Ok (fnAt gl T (k + 4) "_law_game" [.loc 0, .d (.tuple [.int a, .int b, .int c, .int d]), .d (.int hand)] S) (fun v S' => ∃ g : Gm, v = .d (gD g) ∧ GmOk g ∧ (g.pl.map (·.1)).Nodup ∧ g.lt.Nodup ∧ Built (g.pl.map (·.2)) d g.rs ∧ (hand < 2 → ∀ p ∈ g.pl, p.2 = hand) ∧ ((g.pl.length : Int) ≤ a ∧ (g.lt.length : Int) ≤ b ∧ (g.rs.length : Int) ≤ c) ∧ ∃ X, Deal (R ++ X) S') E0 := by
  have sz := sz_eq
  have hDk : ∀ {R S m}, Deal R S → 0 < m → m < 1073741824 → Ok (fnAt gl T (k + 3) "_law_draw" [.loc 0, .d (.int m)] S) (fun v S' => ∃ r, v = .d (.int r) ∧ 0 ≤ r ∧ r < m ∧ Deal R S') E0 := fun h h1 h2 => t.draw h h1 h2
  have hNk : ∀ {R S n}, Deal R S → 0 ≤ n → n ≤ 26 → Ok (fnAt gl T (k + 3) "_law_names" [.loc 0, .d (.int n)] S) (fun v S' => ∃ zs : List Str, v = .d (.list (zs.map .str)) ∧ (zs.length : Int) = n ∧ (∀ z ∈ zs, nmOk z) ∧ zs.Nodup ∧ Deal (R ++ [.dead]) S') E0 := fun h h1 h2 => tnames_ok (k := k + 1) t.dr t.nm h h1 h2
  rw [ok_fn hT, ok_run]
  refine ⟨rfl, ?_⟩
  unfold f_t_game
  refine ok_seq (fun ρ S => Deal R S ∧ ∃ hs : List Int, 1 ≤ hs.length ∧ (hs.length : Int) ≤ a ∧ (∀ i ∈ hs, (0 ≤ i ∧ i < 2) ∧ (hand < 2 → i = hand)) ∧ ρ = [some (.loc 0), some (.d (.tuple [.int a, .int b, .int c, .int d])), some (.d (.int hand)), some (.d (.list (hs.map .int))), none, none, none]) ?_ ?_
  · simp [-List.map_map]
    refine (hDk h (by omega) (by omega)).imp0 fun v S1 ⟨w, e, w0, w1, h2⟩ => ?_
    subst e
    simp [-List.map_map]
    refine ⟨fun _ _ => ?_, by omega, by omega⟩
    refine comp_full (J := Deal R) (p := fun d => ∃ i : Int, d = .int i ∧ (0 ≤ i ∧ i < 2) ∧ (hand < 2 → i = hand)) (by simp; omega) (fun x hx S hS => ?_) h2 fun ds S' hd hlen hS => ?_
    · obtain ⟨i, hi, rfl⟩ := List.mem_map.mp hx
      simp [wipeR]
      refine (hDk hS (by decide) (by decide)).imp0 fun v S' ⟨r, e, r0, r1, hS'⟩ => ?_
      subst e
      by_cases c2 : hand < 2
      · simp [c2]; exact ⟨hS', by omega⟩
      · simp [c2]; exact ⟨hS', by omega, by omega⟩
    · obtain ⟨hs, rfl, hh⟩ := typed hd
      simp at hlen
      have c : hs.length ≤ sizeLine := by omega
      simp [-List.map_map, c]
      exact ⟨hS, hs, by omega, by omega, hh, rfl⟩
  rintro ρ S2 ⟨h2, hs, s0, s1, hh, rfl⟩
  refine ok_seq (fun ρ S => Deal (R ++ [.dead]) S ∧ ∃ zs : List Str, 1 ≤ zs.length ∧ (zs.length : Int) ≤ b ∧ (∀ z ∈ zs, nmOk z) ∧ zs.Nodup ∧ ρ = [some (.loc 0), some (.d (.tuple [.int a, .int b, .int c, .int d])), some (.d (.int hand)), some (.d (.list (hs.map .int))), some (.d (.list (zs.map .str))), none, none]) ?_ ?_
  · simp [-List.map_map]
    refine (hDk h2 (by omega) (by omega)).imp0 fun v S1 ⟨w, e, w0, w1, h2⟩ => ?_
    subst e
    simp [-List.map_map]
    refine (hNk h2 (by omega) (by omega)).imp0 fun v S1 ⟨zs, e, e2, hz, hn, h3⟩ => ?_
    subst e
    simp [-List.map_map]
    exact ⟨h3, zs, by omega, by omega, hz, hn, rfl⟩
  rintro ρ S3 ⟨h3, zs, z0, z1, hz, hn, rfl⟩
  refine ok_seq (fun ρ S => DX R S ∧ ∃ rs : List Rl, (rs.length : Int) ≤ c ∧ (∀ u ∈ rs, rOk hs.length zs.length u) ∧ Built hs d rs ∧ ρ = [some (.loc 0), some (.d (.tuple [.int a, .int b, .int c, .int d])), some (.d (.int hand)), some (.d (.list (hs.map .int))), some (.d (.list (zs.map .str))), some (.d (.tuple (rs.map rD))), none]) ?_ ?_
  · simp [-List.map_map]
    refine (hDk h3 (by omega) (by omega)).imp0 fun v S1 ⟨w, e, w0, w1, h4⟩ => ?_
    subst e
    simp [-List.map_map]
    refine (trules_ok (k := k) t.dr t.rl t.rs h4 (fun i hi => (hh i hi).1) s0 (by omega) (by omega) (by omega) (by omega) (by omega)).imp0 fun v S1 ⟨rs, e, e2, hr, hB, o, h5⟩ => ?_
    subst e
    simp [-List.map_map]
    exact ⟨⟨_, by rw [← List.append_assoc]; exact h5⟩, rs, by omega, hr, hB, rfl⟩
  rintro ρ S4 ⟨⟨X, h4⟩, rs, r0, hr, hB, rfl⟩
  simp [-List.map_map]
  refine (hNk h4 (by omega) (by omega)).imp0 fun v S5 ⟨ys, e, e2, hy, hyn, h5⟩ => ?_
  subst e
  have eL : ∀ S : Store, (rdL S (.d (.list (ys.map .str)))).bind pds = some (ys.map .str) := fun S => pds_map _
  have eH : ∀ S : Store, (rdL S (.d (.list (hs.map .int)))).bind pds = some (hs.map .int) := fun S => pds_map _
  have ez : ∀ S : Store, zipTV (.d (.list (ys.map .str))) (.d (.list (hs.map .int))) S = .ok (.d (.tuple ((ys.zip hs).map pD))) S := fun S => by
    simp only [zipTV, eL, eH]
    rw [List.zip_map, List.map_map]
    rfl
  simp [-List.map_map, ez]
  have el : (ys.zip hs).length = hs.length := by rw [List.length_zip]; omega
  have e1 : (ys.zip hs).map (·.1) = ys := List.map_fst_zip (by omega)
  have e3 : (ys.zip hs).map (·.2) = hs := List.map_snd_zip (by omega)
  refine ⟨⟨ys.zip hs, zs, rs⟩, rfl, ⟨by show 1 ≤ (ys.zip hs).length; omega, by show (ys.zip hs).length ≤ 3; omega, z0, by show zs.length ≤ 3; omega, by show rs.length ≤ 8; omega, fun p hp => ?_, hz, fun u hu => ?_⟩, by show ((ys.zip hs).map (·.1)).Nodup; rw [e1]; exact hyn, hn, by show Built ((ys.zip hs).map (·.2)) d rs; rw [e3]; exact hB, fun hlt _ _ hp => (hh _ (List.of_mem_zip hp).2).2 hlt, ⟨by show ((ys.zip hs).length : Int) ≤ a; omega, by show (zs.length : Int) ≤ b; omega, by show (rs.length : Int) ≤ c; omega⟩, X ++ [.dead], by rw [← List.append_assoc]; exact h5⟩
  · have := List.of_mem_zip (show (p.1, p.2) ∈ ys.zip hs from hp)
    exact ⟨hy _ this.1, (hh _ this.2).1⟩
  · show rOk ((ys.zip hs).length : Int) (zs.length : Int) u
    rw [el]; exact hr u hu
theorem tsome_ok {most : Int} {is : List Int} (hD : T.lookup ("_law_draw" : Str) = some f_t_draw) (hT : T.lookup ("_law_some" : Str) = some f_t_some) (h : Deal R S) (hl : is.length ≤ 1000) (hm : 0 ≤ most) :
    Ok (fnAt gl T (k + 2) "_law_some" [.loc 0, .d (.list (is.map .int)), .d (.int most)] S) (fun v S' => ∃ js : List Int, v = .d (plT js) ∧ js.Sublist is ∧ (js.length : Int) ≤ most ∧ Deal R S') E0 := by
  have sz := sz_eq
  rw [ok_fn hT, ok_run]
  refine ⟨rfl, ?_⟩
  unfold f_t_some
  refine ok_seq (fun ρ S => Deal R S ∧ ∃ js : List Int, js.Sublist is ∧ ρ = [some (.loc 0), some (.d (.list (is.map .int))), some (.d (.int most)), some (.d (.list (js.map .int))), none]) ?_ ?_
  · simp [-List.map_map]
    rw [List.map_map]
    refine comp_sub (ys := is) (J := Deal R) (toD := fun i : Int => Vl.d (.int i)) (g := fun i : Int => PyData.int i) (by omega) (fun i hi S hS => ?_) h fun zs S' hz hS' => ?_
    · simp [wipeR, -List.map_map]
      refine (tdraw_ok hD hS (by decide) (by decide)).imp0 fun v S' ⟨r, e, r0, r1, h2⟩ => ?_
      subst e
      by_cases c : r = 1 <;> simp [c, h2]
    · have hl := hz.length_le
      have c : zs.length ≤ sizeLine := by omega
      simp [-List.map_map, newL_f, c]
      exact ⟨hS', zs, hz, rfl⟩
  rintro ρ S1 ⟨h1, js, hj, rfl⟩
  have ec : cutL (js.map PyData.int) none (some most) = (js.take most.toNat).map .int := by
    unfold cutL
    have e1 : HT.sIx (js.map PyData.int).length 0 none = 0 := rfl
    have e2 : HT.sIx (js.map PyData.int).length (js.map PyData.int).length (some most) = min most.toNat js.length := by
      show (if most < 0 then _ else min most.toNat _) = _
      rw [if_neg (by omega), List.length_map]
    rw [e1, e2, List.drop_zero, Nat.sub_zero, ← List.map_take]
    congr 1
    exact (List.take_eq_take_min).symm
  have c2 : (js.take most.toNat).length ≤ sizeLine := by have := hj.length_le; rw [List.length_take]; omega
  rw [ok_ss]
  simp [-List.map_map, -List.length_take, ec, c2]
  have e9 : List.take most.toNat (List.map Vl.d (List.map PyData.int js)) = ((js.take most.toNat).map .int).map .d := by rw [← List.map_take, ← List.map_take]
  have e10 : newL false (List.take most.toNat (List.map Vl.d (List.map PyData.int js))) S1 = .ok (.d (.list ((js.take most.toNat).map .int))) S1 := by rw [e9, newL_f, if_pos (by rw [List.length_map]; exact c2)]
  rw [e10]
  simp [-List.map_map]
  exact ⟨js.take most.toNat, by simp [plT, List.map_take], (List.take_sublist _ _).trans hj, by rw [List.length_take]; omega, h1⟩
theorem lrng_ok {n : Nat} (h : n ≤ 1000) : lrngV false 0 (n : Int) S = .ok (.d (.list (((List.range n).map fun i : Nat => ((i : Nat) : Int)).map .int))) S := by
  have sz := sz_eq
  unfold lrngV
  rw [if_pos (by omega)]
  have e : ((List.range ((n : Int) - 0).toNat).map fun i : Nat => Vl.d (.int (0 + (i : Nat)))) = (((List.range n).map fun i : Nat => ((i : Nat) : Int)).map .int).map .d := by
    rw [List.map_map, List.map_map]
    have : ((n : Int) - 0).toNat = n := by omega
    rw [this]
    refine List.map_congr_left fun i _ => ?_
    simp
  rw [e, newL_f, if_pos (by simp; omega)]
/-- a saying's arrows as they are made -/
def sayAr (P n L mt : Int) (a : Ar) : Prop := (0 ≤ a.q ∧ a.q < n) ∧ (0 ≤ a.l ∧ a.l < L) ∧ a.ts.Pairwise (· < ·) ∧ (∀ t ∈ a.ts, P ≤ t ∧ t < n) ∧ (a.ts.length : Int) ≤ mt ∧ a.c = none
def TSI (R : Store) (P n L mt many : Int) (base : Rho) (r : List Vl) (ρ : Rho) (S : Store) : Prop := (∀ x ∈ r, ∃ i : Nat, x = .d (.int (i : Int))) ∧ ∃ as : List Ar, (as.length + r.length : Int) ≤ many ∧ (∀ a ∈ as, sayAr P n L mt a) ∧ as.Nodup ∧ Deal (R ++ [.lst ((as.map arD).map .d)]) S ∧ ∃ o1 o2, ρ = base ++ [some (.loc (R.length + 2)), o1, o2]
theorem arD_inj {a b : Ar} (ha : a.c = none) (hb : b.c = none) (h : arD a = arD b) : a = b := by
  obtain ⟨q, l, ts, c⟩ := a
  obtain ⟨q', l', ts', c'⟩ := b
  dsimp only at ha hb
  subst ha hb
  simp only [arD, plT, Option.map_none, Option.toList_none, List.append_nil, PyData.tuple.injEq, List.cons.injEq, PyData.int.injEq, and_true] at h
  obtain ⟨rfl, rfl, h⟩ := h
  have e : ∀ a b : List Int, a.map PyData.int = b.map PyData.int → a = b := fun a b h => (List.map_inj_right (fun _ _ h => by cases h; rfl)).mp h
  rw [e _ _ h]
theorem eqv_arD {a b : Ar} (ha : a.c = none) (hb : b.c = none) (h : PyData.eqv (arD a) (arD b) = true) : a = b := by
  obtain ⟨q, l, ts, c⟩ := a
  obtain ⟨q', l', ts', c'⟩ := b
  dsimp only at ha hb
  subst ha hb
  simp only [arD, plT, Option.map_none, Option.toList_none, List.append_nil, PyData.eqv, PyData.eqvAll, eqv_ints, Bool.and_eq_true, beq_iff_eq, decide_eq_true_eq, and_true] at h
  obtain ⟨rfl, rfl, rfl⟩ := h
  rfl
theorem eqv_ar (a : Ar) : PyData.eqv (arD a) (arD a) = true := by
  obtain ⟨q, l, ts, c⟩ := a
  cases c <;> simp [arD, plT, PyData.eqv, PyData.eqvAll, eqv_ints]
theorem rng_ints (n : Nat) : ((List.range n).map fun i : Nat => PyData.int ((i : Nat) : Int)) = ((List.range n).map fun i : Nat => ((i : Nat) : Int)).map .int := by rw [List.map_map]; rfl
theorem rise_rng (n : Nat) : ((List.range n).map fun i : Nat => ((i : Nat) : Int)).Pairwise (· < ·) := List.pairwise_map.mpr (List.pairwise_lt_range.imp fun h => by omega)
/-- the saying, as told -/
structure SyOk (g : Gm) (own many mt : Int) (n : Int) (as : List Ar) (ends : List Int) : Prop where
  n0 : 0 ≤ n
  n1 : n ≤ own
  ar : ∀ a ∈ as, sayAr g.pl.length (g.pl.length + n) g.lt.length mt a
  al : (as.length : Int) ≤ many
  nd : as.Nodup
  so : as.map arD = srtD (as.map arD)
  er : ends.Pairwise (· < ·)
  eb : ∀ e ∈ ends, 0 ≤ e ∧ e < g.pl.length + n
theorem tsaying_okN {nm : List Str} {g : Gm} {own many mt : Int} (hn : nm.length = 10) (t : TOk T) (hSm : T.lookup ("_law_some" : Str) = some f_t_some) (hT : T.lookup ("_law_saying" : Str) = some ⟨f_t_saying.ps, nm, f_t_saying.body⟩) (h : Deal R S) (hg : GmOk g) (o0 : 0 ≤ own) (o1 : own ≤ 100) (m0 : 0 ≤ many) (m1 : many ≤ 100) (mt0 : 0 ≤ mt) :
    Ok (fnAt gl T (k + 3) "_law_saying" [.loc 0, .d (gD g), .d (.int own), .d (.int many), .d (.int mt)] S) (fun v S' => ∃ n as ends, v = .d (sayD n as ends) ∧ SyOk g own many mt n as ends ∧ DX R S') E0 := by
  have sz := sz_eq
  have hDk : ∀ {R S m}, Deal R S → 0 < m → m < 1073741824 → Ok (fnAt gl T (k + 2) "_law_draw" [.loc 0, .d (.int m)] S) (fun v S' => ∃ r, v = .d (.int r) ∧ 0 ≤ r ∧ r < m ∧ Deal R S') E0 := fun h h1 h2 => t.draw h h1 h2
  have p1 := hg.p1
  have p3 := hg.p3
  have l1 := hg.l1
  have l3 := hg.l3
  rw [ok_fn hT, ok_run]
  refine ⟨rfl, ?_⟩
  dsimp only
  rw [hn]
  unfold f_t_saying
  dsimp only
  refine ok_seq (fun ρ S' => Deal R S' ∧ ρ = [some (.loc 0), some (.d (gD g)), some (.d (.int own)), some (.d (.int many)), some (.d (.int mt)), some (.d (.int g.pl.length)), none, none, none, none]) (by simp [gD, h]) ?_
  rintro ρ S1 ⟨h1, rfl⟩
  refine ok_seq (fun ρ S' => Deal R S' ∧ ∃ w : Nat, (w : Int) ≤ own ∧ ρ = [some (.loc 0), some (.d (gD g)), some (.d (.int own)), some (.d (.int many)), some (.d (.int mt)), some (.d (.int g.pl.length)), some (.d (.list (((List.range (g.pl.length + w)).map fun i : Nat => ((i : Nat) : Int)).map .int))), none, none, none]) ?_ ?_
  · simp [-List.map_map]
    refine (hDk h1 (by omega) (by omega)).imp0 fun v S1 ⟨w, e, w0, w1, h2⟩ => ?_
    subst e
    obtain ⟨w, rfl⟩ := Int.eq_ofNat_of_zero_le w0
    have := lrng_ok (S := S1) (n := g.pl.length + w) (by omega)
    simp [-List.map_map]
    rw [← Int.natCast_add, this]
    simp [-List.map_map]
    exact ⟨h2, w, by omega, rfl⟩
  rintro ρ S2 ⟨h2, w, w1, rfl⟩
  obtain ⟨N, hN⟩ : ∃ N, N = (List.range (g.pl.length + w)).map fun i : Nat => ((i : Nat) : Int) := ⟨_, rfl⟩
  rw [← hN]
  have lN : N.length = g.pl.length + w := by rw [hN]; simp
  have mN : ∀ i ∈ N, 0 ≤ i ∧ i < g.pl.length + w := fun i hi => by
    rw [hN] at hi
    obtain ⟨j, hj, rfl⟩ := List.mem_map.mp hi
    have := List.mem_range.mp hj
    omega
  have rN : N.Pairwise (· < ·) := by rw [hN]; exact rise_rng _
  have dN : ∀ t ∈ N.drop g.pl.length, (g.pl.length : Int) ≤ t := fun t ht => by
    rw [hN, ← List.map_drop] at ht
    obtain ⟨j, hj, rfl⟩ := List.mem_map.mp ht
    obtain ⟨i, hi, e⟩ := List.getElem_of_mem hj
    simp at e
    omega
  have ecut : cutL (N.map PyData.int) (some (g.pl.length : Int)) none = (N.drop g.pl.length).map .int := by
    unfold cutL
    have e1 : HT.sIx (N.map PyData.int).length 0 (some (g.pl.length : Int)) = g.pl.length := by
      rw [HT.sIx_nat, List.length_map]; omega
    have e2 : HT.sIx (N.map PyData.int).length (N.map PyData.int).length none = (N.map PyData.int).length := rfl
    rw [e1, e2, ← List.map_drop, ← List.map_take, List.length_map]
    congr 1
    exact List.take_of_length_le (by simp)
  have lcut : (N.drop g.pl.length).length ≤ sizeLine := by rw [List.length_drop]; omega
  obtain ⟨base, hb⟩ : ∃ base, base = [some (Vl.loc 0), some (Vl.d (gD g)), some (.d (.int own)), some (.d (.int many)), some (.d (.int mt)), some (.d (.int g.pl.length)), some (.d (.list (N.map .int)))] := ⟨_, rfl⟩
  refine ok_seq (fun ρ S' => Deal (R ++ [.lst []]) S' ∧ ρ = base ++ [some (.loc (R.length + 2)), none, none]) (by simp [-List.map_map, h2.len, hb]; exact h2.push _) ?_
  rintro ρ S3 ⟨h3, rfl⟩
  refine ok_seq (TSI R g.pl.length (g.pl.length + w) g.lt.length mt many base []) ?_ ?_
  · rw [hb]
    simp [-List.map_map]
    refine (hDk h3 (by omega) (by omega)).imp0 fun v S4 ⟨z, e, z0, z1, h4⟩ => ?_
    subst e
    simp [-List.map_map]
    refine ⟨fun _ _ => ?_, by omega, by omega⟩
    refine ok_for (I := TSI R g.pl.length (g.pl.length + w) g.lt.length mt many base) (fun x r ρ S h => ?_) (fun ρ S h => ?_) _ _ _ ⟨fun x hx => ?_, [], by simp; omega, by simp, .nil, h4, none, none, by rw [hb]; rfl⟩
    · obtain ⟨hi, as, hl, ha, hn, hS, o1, o2, rfl⟩ := h
      obtain ⟨i, rfl⟩ := hi x (by simp)
      simp only [List.length_cons] at hl
      refine ⟨trivial, ?_⟩
      rw [hb]
      refine (ok_frB).mpr ⟨_, rfl, ?_⟩
      refine ok_seq (fun ρ S => Deal (R ++ [.lst ((as.map arD).map .d)]) S ∧ ∃ a : Ar, sayAr g.pl.length (g.pl.length + w) g.lt.length mt a ∧ ρ = base ++ [some (.loc (R.length + 2)), some (.d (.int (i : Int))), some (.d (arD a))]) ?_ ?_
      · simp [-List.map_map]
        refine (hDk hS (by omega) (by omega)).imp0 fun v S5 ⟨q, e, q0, q1, h5⟩ => ?_
        subst e
        simp [gD, -List.map_map]
        refine (hDk h5 (by omega) (by omega)).imp0 fun v S6 ⟨l, e, l0, l1, h6⟩ => ?_
        subst e
        simp [-List.map_map, ecut, lcut]
        refine ⟨fun _ => ?_, by omega⟩
        rw [← List.map_drop]
        refine (tsome_ok (k := k) (is := N.drop g.pl.length) t.dr hSm h6 (by rw [List.length_drop]; omega) mt0).imp0 fun v S7 ⟨ts, e, t1, t2, h7⟩ => ?_
        subst e
        simp [-List.map_map]
        refine ⟨h7, ⟨q, l, ts, none⟩, ⟨⟨q0, by dsimp only; omega⟩, ⟨l0, l1⟩, rN.sublist (t1.trans (List.drop_sublist _ _)), fun t ht => ⟨dN t (t1.subset ht), (mN t ((List.drop_sublist _ _).subset (t1.subset ht))).2⟩, t2, rfl⟩, ?_⟩
        rw [hb]
        simp [arD, plT, gD]
      rintro ρ S8 ⟨h8, a, hA, rfl⟩
      have ni := ni_loc (a := arD a) h8.last (by have := depth_ar a; omega)
      have lm : (List.map Vl.d (List.map arD as)).length = as.length := by simp
      have eap := app_eq (x := .d (arD a)) h8.last (by rw [lm]; omega)
      rw [hb]
      have hi' : ∀ x ∈ r, ∃ i : Nat, x = Vl.d (.int (i : Int)) := fun y hy => hi y (by simp [hy])
      have keep : ∀ o, TSI R g.pl.length (g.pl.length + w) g.lt.length mt many base r (base ++ [some (.loc (R.length + 2)), some (.d (.int (i : Int))), o]) S8 := fun o => ⟨hi', as, by omega, ha, hn, h8, _, _, rfl⟩
      have put : a ∉ as → ∀ o, TSI R g.pl.length (g.pl.length + w) g.lt.length mt many base r (base ++ [some (.loc (R.length + 2)), some (.d (.int (i : Int))), o]) (S8.set (R.length + 2) (.lst ((as.map arD).map .d ++ [.d (arD a)]))) := fun na o => by
        refine ⟨hi', as ++ [a], by simp; omega, fun b hb => ?_, ?_, ?_, _, _, rfl⟩
        · rcases List.mem_append.mp hb with hb | hb
          · exact ha b hb
          · rw [List.mem_singleton.mp hb]; exact hA
        · rw [List.nodup_append]
          exact ⟨hn, by simp, fun x hx y hy e => na (by rw [List.mem_singleton.mp hy] at e; rwa [← e])⟩
        · have := h8.putLast (.lst (((as ++ [a]).map arD).map .d))
          simpa using this
      by_cases c : ((as.map arD).any fun z => PyData.eqv z (arD a)) = true
      · rw [c] at ni
        have := keep (some (.d (arD a)))
        rw [hb] at this
        simp [-List.map_map, ni]
        exact this
      · have cf : ((as.map arD).any fun z => PyData.eqv z (arD a)) = false := by simpa using c
        rw [cf] at ni
        have := put (fun hm => c (List.any_eq_true.mpr ⟨_, List.mem_map.mpr ⟨a, hm, rfl⟩, eqv_ar a⟩)) (some (.d (arD a)))
        rw [hb] at this
        simp [-List.map_map, ni, eap, isTy_loc h8.last]
        exact this
    · exact ⟨trivial, ρ, rfl, by rw [hb] at h; exact h⟩
    · obtain ⟨i, hi, rfl⟩ := List.mem_map.mp hx
      exact ⟨i, by simp⟩
  rintro ρ S9 ⟨_, as, hl, ha, hn, hS, o1, o2, rfl⟩
  have hz : as.length ≤ sizeLine := by simp at hl; omega
  have hz2 : ((srtD (as.map arD)).length) ≤ sizeLine := by rw [srt_len, List.length_map]; exact hz
  obtain ⟨bs, eb, hbs⟩ := typed (ds := srtD (as.map arD)) (toD := arD) (q := fun a => a ∈ as) fun d hd => by
    obtain ⟨a, ha, rfl⟩ := List.mem_map.mp (srt_mem.mp hd)
    exact ⟨a, rfl, ha⟩
  rw [hb, ok_ss]
  simp [-List.map_map, srt_loc hS.last (srtOk_ar hz), hz2, lN]
  refine (tsome_ok (k := k) (is := N) t.dr hSm hS (by omega) (by omega)).imp0 fun v S10 ⟨es, e, e1, e2, h10⟩ => ?_
  subst e
  simp [-List.map_map]
  have el : bs.length = as.length := by
    have := congrArg List.length eb
    rw [srt_len, List.length_map, List.length_map] at this
    omega
  have aN : ∀ d, d ∈ bs → d ∈ as := hbs
  refine ⟨w, bs, es, by rw [eb]; simp [sayD]; omega, ⟨by omega, w1, fun a h => ha a (hbs a h), by simp at hl; omega, ?_, ?_, rN.sublist e1, fun e he => mN e (e1.subset he)⟩, [_], h10⟩
  · have nd1 : (as.map arD).Nodup := List.pairwise_map.mpr (List.Pairwise.imp_of_mem (fun {a b} h1 h2 h3 e => h3 (arD_inj (ha a h1).2.2.2.2.2 (ha b h2).2.2.2.2.2 e)) hn)
    have nd2 := srt_nodup nd1
    rw [eb] at nd2
    exact (List.pairwise_map.mp nd2).imp fun h e => h (by rw [e])
  · rw [← eb]
    exact (List.mergeSort_of_pairwise (PySem.W.sort_pairwise (le := PySem.W.dataLe false id) (PySem.W.sortLe_total (PyProof.Rows.listOrd PyProof.Rows.itemOrd) false fun d : PyData => PySem.W.keyToks d) _)).symm
theorem tsaying_ok {g : Gm} {own many mt : Int} (t : TOk T) (hSm : T.lookup ("_law_some" : Str) = some f_t_some) (hT : T.lookup ("_law_saying" : Str) = some f_t_saying) (h : Deal R S) (hg : GmOk g) (o0 : 0 ≤ own) (o1 : own ≤ 100) (m0 : 0 ≤ many) (m1 : many ≤ 100) (mt0 : 0 ≤ mt) :
    Ok (fnAt gl T (k + 3) "_law_saying" [.loc 0, .d (gD g), .d (.int own), .d (.int many), .d (.int mt)] S) (fun v S' => ∃ n as ends, v = .d (sayD n as ends) ∧ SyOk g own many mt n as ends ∧ DX R S') E0 := tsaying_okN (nm := f_t_saying.nm) rfl t hSm hT h hg o0 o1 m0 m1 mt0
theorem tpile_ok {g : Gm} {most : Int} (t : TOk T) (hT : T.lookup ("_law_pile" : Str) = some f_t_pile) (h : Deal R S) (hg : GmOk g) (m0 : 0 ≤ most) (m1 : most ≤ 1000) :
    Ok (fnAt gl T (k + 2) "_law_pile" [.loc 0, .d (gD g), .d (.int most)] S) (fun v S' => ∃ pile : List Int, v = .d (plT pile) ∧ (pile.length : Int) ≤ most ∧ (∀ l ∈ pile, 0 ≤ l ∧ l < g.lt.length) ∧ Deal R S') E0 := by
  have sz := sz_eq
  have l1 := hg.l1
  have l3 := hg.l3
  rw [ok_fn hT, ok_run]
  refine ⟨rfl, ?_⟩
  unfold f_t_pile gD
  simp [-List.map_map]
  refine (t.draw h (by omega) (by omega)).imp0 fun v S1 ⟨w, e, w0, w1, h2⟩ => ?_
  subst e
  simp [-List.map_map]
  refine ⟨fun _ _ => ?_, by omega, by omega⟩
  refine comp_full (J := Deal R) (p := fun d => ∃ i : Int, d = .int i ∧ 0 ≤ i ∧ i < g.lt.length) (by simp; omega) (fun x hx S hS => ?_) h2 fun ds S' hd hlen hS => ?_
  · obtain ⟨i, hi, rfl⟩ := List.mem_map.mp hx
    simp [wipeR]
    refine (t.draw hS (by omega) (by omega)).imp0 fun v S' ⟨r, e, r0, r1, hS'⟩ => ?_
    subst e
    exact ⟨hS', _, rfl, _, rfl, r0, r1⟩
  · obtain ⟨ws, rfl, hw⟩ := typed hd
    simp at hlen
    have c : ws.length ≤ sizeLine := by omega
    simp [-List.map_map, c]
    exact ⟨ws, rfl, by omega, hw, hS⟩
end
end DL

namespace DL
open PySem PySem.Spec PyProof.Rows L2 SN
/-! ### sets of arrows, sorted -/
def kAr (a : Ar) : NestedKey := .tup ([.num a.q, .num a.l, .tup (a.ts.map .num)] ++ (a.c.map NestedKey.num).toList)
theorem keyDs_nums : ∀ is : List Int, keyDs (is.map .num) = is.map .int
  | [] => by rw [List.map_nil, List.map_nil, keyDs]
  | i :: is => by rw [List.map_cons, List.map_cons, keyDs, keyDs_nums is, keyD]
theorem keyD_A (a : Ar) : keyD (kAr a) = arD a := by
  obtain ⟨q, l, ts, c⟩ := a
  cases c <;> simp [kAr, arD, plT, keyD, keyDs, keyDs_nums]
theorem numKs_nums : ∀ is : List Int, numKs (is.map .num) = true
  | [] => by rw [List.map_nil, numKs]
  | i :: is => by rw [List.map_cons, numKs, numKs_nums is, numK]; rfl
theorem numK_A (a : Ar) : numK (kAr a) = true := by
  obtain ⟨q, l, ts, c⟩ := a
  cases c <;> simp [kAr, numK, numKs, numKs_nums]
theorem depth_nums : ∀ is : List Int, NestedKey.depthAll (is.map .num) ≤ 1
  | [] => by simp [NestedKey.depthAll]
  | i :: is => by
    have := depth_nums is
    simp only [List.map_cons, NestedKey.depthAll, NestedKey.depth]
    omega
theorem depth_A (a : Ar) : (kAr a).depth ≤ 8 := by
  obtain ⟨q, l, ts, c⟩ := a
  have := depth_nums ts
  cases c <;> simp [kAr, NestedKey.depth, NestedKey.depthAll] <;> omega
theorem kAr_inj {a b : Ar} (h : kAr a = kAr b) : a = b := by
  obtain ⟨q, l, ts, c⟩ := a
  obtain ⟨q', l', ts', c'⟩ := b
  have inj : Function.Injective NestedKey.num := fun a b e => by cases e; rfl
  cases c <;> cases c' <;> simp [kAr] at h
  · obtain ⟨rfl, rfl, h⟩ := h
    rw [(List.map_inj_right fun a b e => inj e).mp h]
  · obtain ⟨rfl, rfl, h, rfl⟩ := h
    rw [(List.map_inj_right fun a b e => inj e).mp h]
theorem arD_inj2 {a b : Ar} (h : arD a = arD b) : a = b := kAr_inj (keyD_inj (by rw [keyD_A, keyD_A]; exact h))
theorem setOk_ar {as : List Ar} (h : as.length < 64) : SetOk (as.map arD) := by
  refine ⟨Nat.lt_of_le_of_lt (unl_len _) (by rw [List.length_map]; exact h), .inr ⟨as.map kAr, by rw [List.map_map]; exact List.map_congr_left fun a _ => (keyD_A a).symm, fun k hk => ?_⟩⟩
  obtain ⟨a, _, rfl⟩ := List.mem_map.mp hk
  exact ⟨⟨_, rfl⟩, depth_A a, numK_A a⟩
/-- each arrow once, sorted -/
theorem set_ar (as : List Ar) : ∃ bs : List Ar, srtD (unl (as.map arD)) = bs.map arD ∧ bs.Nodup ∧ (∀ b, b ∈ bs ↔ b ∈ as) := by
  obtain ⟨bs, e, hb⟩ := typed (ds := srtD (unl (as.map arD))) (toD := arD) (q := fun a => a ∈ as) fun d hd => by
    have := mem_unl.mp (srt_mem.mp hd)
    obtain ⟨a, ha, rfl⟩ := List.mem_map.mp this
    exact ⟨a, rfl, ha⟩
  have nd : (bs.map arD).Nodup := by rw [← e]; exact srt_nodup (nodup_unl _)
  refine ⟨bs, e, (List.pairwise_map.mp nd).imp fun h e => h (by rw [e]), fun b => ⟨fun h => hb b h, fun h => ?_⟩⟩
  have : arD b ∈ bs.map arD := by rw [← e]; exact srt_mem.mpr (mem_unl.mpr (List.mem_map.mpr ⟨b, h, rfl⟩))
  obtain ⟨c, hc, ec⟩ := List.mem_map.mp this
  rw [← arD_inj2 ec]; exact hc
theorem srtOk_sub {as : List Ar} (h : as.length ≤ sizeLine) : SrtOk (unl (as.map arD)) := by
  have z := srtOk_ar h
  refine ⟨fun d hd e he => z.al d (mem_unl.mp hd) e (mem_unl.mp he), ?_, ?_, fun d hd => z.dep d (mem_unl.mp hd)⟩
  · rcases z.so with s | s
    · exact .inl fun d hd => s d (mem_unl.mp hd)
    · exact .inr fun d hd => s d (mem_unl.mp hd)
  · have := unl_len (as.map arD)
    rw [List.length_map] at this
    omega
theorem srtset_loc {as : List Ar} {n : Nat} {S : Store} (h : S[n]? = some (.lst ((as.map arD).map .d))) (hz : as.length < 64) : ∃ bs : List Ar, srtsetV false (.loc n) S = .ok (.d (.list (bs.map arD))) S ∧ bs.map arD = srtD (unl (as.map arD)) ∧ bs.length ≤ as.length ∧ bs.Nodup ∧ (∀ b, b ∈ bs ↔ b ∈ as) := by
  have sz := sz_eq
  obtain ⟨bs, e, nd, hm⟩ := set_ar as
  have hl : bs.length ≤ as.length := by
    have h1 : bs.length = (srtD (unl (as.map arD))).length := by rw [e, List.length_map]
    rw [srt_len] at h1
    have := unl_len (as.map arD)
    rw [List.length_map] at this
    omega
  refine ⟨bs, ?_, e.symm, hl, nd, hm⟩
  have es : seqD S (.loc n) = some (as.map arD) := by
    show (rdL S (.loc n)).bind pds = _
    simp only [rdL, h, Option.bind_some, pds_map]
  unfold srtsetV
  simp only [es]
  rw [if_pos ⟨setOk_ar hz, srtOk_sub (by omega)⟩, e, newL_f, if_pos (by rw [List.length_map]; omega)]
/-! the order -/
def ltI : List Int → List Int → Bool
  | [], [] => false
  | [], _ :: _ => true
  | _ :: _, [] => false
  | x :: xs, y :: ys => decide (x < y) || (!decide (y < x) && ltI xs ys)
open PySem.W in
theorem lex_ints {r : List (Int ⊕ List Nat)} : ∀ xs ys : List Int, lexLt itemOrd (keyToksAll (xs.map .int) ++ r) (keyToksAll (ys.map .int) ++ r) = ltI xs ys
  | [], [] => by
    rw [List.map_nil]
    exact (listOrd itemOrd).irrefl _
  | [], y :: ys => by
    rw [List.map_nil, List.map_cons, keyToksAll, keyToksAll]
    show lexLt itemOrd (.inl 0 :: r) (.inl 1 :: _) = _
    rw [lex_diff (by simp)]
    rfl
  | x :: xs, [] => by
    rw [List.map_nil, List.map_cons, keyToksAll, keyToksAll]
    show lexLt itemOrd (.inl 1 :: _) (.inl 0 :: r) = _
    rw [lex_diff (by simp)]
    rfl
  | x :: xs, y :: ys => by
    rw [List.map_cons, List.map_cons, keyToksAll, keyToksAll, keyToks, keyToks]
    show lexLt itemOrd (.inl 1 :: .inl x :: (keyToksAll (xs.map .int) ++ r)) (.inl 1 :: .inl y :: (keyToksAll (ys.map .int) ++ r)) = _
    rw [lex_self]
    show (decide (x < y) || (!decide (y < x) && lexLt itemOrd (keyToksAll (xs.map .int) ++ r) (keyToksAll (ys.map .int) ++ r))) = _
    rw [lex_ints xs ys]
    rfl
theorem ltI_add (p : Int) : ∀ xs ys : List Int, ltI (xs.map (p + ·)) (ys.map (p + ·)) = ltI xs ys
  | [], [] => rfl
  | [], _ :: _ => rfl
  | _ :: _, [] => rfl
  | x :: xs, y :: ys => by
    rw [List.map_cons, List.map_cons, ltI, ltI, ltI_add p xs ys]
    congr 1
    · simp
    · simp
theorem le_pl (a b : List Int) : PySem.W.dataLe false id (plT a) (plT b) = !ltI b a := by
  have := lex_ints (r := []) b a
  rw [List.append_nil, List.append_nil] at this
  rw [← this]
  show (!PyProof.Rows.lexLt itemOrd (PySem.W.keyToks (plT b)) (PySem.W.keyToks (plT a))) = _
  unfold plT
  rw [PySem.W.keyToks, PySem.W.keyToks]
open PySem.W in
theorem le_ar {a b : Ar} (ha : a.c = none) (hb : b.c = none) (h : a.q < b.q ∨ (a.q = b.q ∧ (a.l < b.l ∨ (a.l = b.l ∧ ltI b.ts a.ts = false)))) : dataLe false id (arD a) (arD b) = true := by
  obtain ⟨q, l, ts, c⟩ := a
  obtain ⟨q', l', ts', c'⟩ := b
  dsimp only at ha hb h
  subst ha hb
  have e : ∀ q l ts, keyToks (arD ⟨q, l, ts, none⟩) = .inl 1 :: .inl q :: .inl 1 :: .inl l :: .inl 1 :: (keyToksAll (ts.map .int) ++ [.inl 0]) := fun q l ts => by
    simp [arD, plT, keyToks, keyToksAll]
  show (!lexLt itemOrd (keyToks (arD ⟨q', l', ts', none⟩)) (keyToks (arD ⟨q, l, ts, none⟩))) = true
  rw [e, e, lex_self]
  rcases h with h | ⟨rfl, h | ⟨rfl, h⟩⟩
  · rw [lex_diff (by simp; omega)]
    show (!decide (q' < q)) = true
    simp; omega
  · rw [lex_self, lex_self, lex_diff (by simp; omega)]
    show (!decide (l' < l)) = true
    simp; omega
  · rw [lex_self, lex_self, lex_self, lex_self, lex_ints, h]; rfl
/-- rising, each once, the same members: the same row -/
theorem set_eq {as cs : List Ar} (nd : cs.Nodup) (hc : ∀ c ∈ cs, c.c = none) (hm : ∀ b, b ∈ cs ↔ b ∈ as) (hr : cs.Pairwise fun a b => PySem.W.dataLe false id (arD a) (arD b) = true) : srtD (unl (as.map arD)) = cs.map arD := by
  obtain ⟨bs, e, nb, hb⟩ := set_ar as
  have pm : bs.Perm cs := (List.perm_ext_iff_of_nodup nb nd).mpr fun a => (hb a).trans (hm a).symm
  have s1 : (srtD (unl (as.map arD))).Pairwise (fun a b => PySem.W.dataLe false id a b = true) := PySem.W.sort_pairwise (PySem.W.sortLe_total (listOrd itemOrd) false fun d : PyData => PySem.W.keyToks d) _
  rw [e] at s1 ⊢
  refine congrArg (List.map arD) (List.Perm.eq_of_pairwise (le := fun a b => PySem.W.dataLe false id (arD a) (arD b) = true) (fun a b ha hb h1 h2 => ?_) (List.pairwise_map.mp s1) hr pm)
  have := anti (numK_A a) (numK_A b) (by rw [keyD_A, keyD_A]; exact alike_ar a b) (by rw [keyD_A, keyD_A]; exact h1) (by rw [keyD_A, keyD_A]; exact h2)
  exact kAr_inj this
end DL

namespace DL
open PySem PySem.Spec PyProof.Rows L2
def f_as_saying : Fd := ⟨["game", "saying", "arrows"], ["game", "saying", "arrows", "places", "found", "ends", "stand", "letter", "targets", "cost", "told", "target"],
 (.cons (.asg (.tg (.nm 3)) (.bi .len (.cons (.ix (.var 0) (.cst (.int 0))) .nil)))
 (.cons (.asg (.tg (.nm 4)) (.lst true .nil))
 (.cons (.fr (.tp (.cons (.nm 6) (.cons (.nm 7) (.cons (.nm 8) (.cons (.nm 9) .nil))))) (.val (.var 2))
 (.cons (.asg (.tg (.nm 10)) (.bi .tuple (.cons (.comp false [("target", 11)] (.nm 11) (.val (.var 8)) .no (.bin (.add false) (.var 3) (.var 11))) .nil)))
 (.cons (.expr (.mt .append (.var 4) (.cons (.tup (.cons (.bin (.add false) (.var 3) (.var 6)) (.cons (.var 7) (.cons (.var 10) .nil)))) .nil)))
 (.cons (.ife (.cmp .lt (.var 6) (.var 3))
 (.cons (.expr (.mt .append (.var 4) (.cons (.tup (.cons (.var 6) (.cons (.var 7) (.cons (.var 10) .nil)))) .nil)))
 .nil)
 .nil)
 .nil))))
 (.cons (.asg (.tg (.nm 5)) (.bin (.add false) (.comp false [("stand", 6)] (.nm 6) (.val (.ix (.var 1) (.cst (.int 2)))) (.yes (.cmp .lt (.var 6) (.var 3))) (.var 6)) (.comp false [("stand", 6)] (.nm 6) (.val (.ix (.var 1) (.cst (.int 2)))) .no (.bin (.add false) (.var 3) (.var 6)))))
 (.cons (.ret (.tup (.cons (.bin (.add false) (.var 3) (.ix (.var 1) (.cst (.int 0)))) (.cons (.bi .tuple (.cons (.srtset false (.var 4)) .nil)) (.cons (.bi .tuple (.cons (.var 5) .nil)) .nil)))))
 .nil)))))⟩
def f_as_arrows : Fd := ⟨["_law_deal_here", "_law_game_here", "_law_stands"], ["_law_deal_here", "_law_game_here", "_law_stands", "_law_found", "_law_k", "_law_targets", "_law_arrow"],
 (.cons (.asg (.tg (.nm 3)) (.lst true .nil))
 (.cons (.fr (.nm 4) (.rng1 (.call false "_law_draw" (.cons (.var 0) (.cons (.cst (.int 13)) .nil))))
 (.cons (.asg (.tg (.nm 5)) (.call false "_law_some" (.cons (.var 0) (.cons (.lrng1 false (.var 2)) (.cons (.var 2) .nil)))))
 (.cons (.asg (.tg (.nm 6)) (.tup (.cons (.call false "_law_draw" (.cons (.var 0) (.cons (.var 2) .nil))) (.cons (.call false "_law_draw" (.cons (.var 0) (.cons (.bi .len (.cons (.ix (.var 1) (.cst (.int 1))) .nil)) .nil))) (.cons (.var 5) (.cons (.call false "_law_draw" (.cons (.var 0) (.cons (.cst (.int 9)) .nil))) .nil))))))
 (.cons (.ife (.band (.cmp .gt (.bi .len (.cons (.var 3) .nil)) (.cst (.int 0))) (.cmp .eq (.call false "_law_draw" (.cons (.var 0) (.cons (.cst (.int 4)) .nil))) (.cst (.int 0))))
 (.cons (.asg (.tg (.nm 6)) (.bin (.add false) (.sl false (.ix (.var 3) (.call false "_law_draw" (.cons (.var 0) (.cons (.bi .len (.cons (.var 3) .nil)) .nil)))) .no (.yes (.cst (.int 3)))) (.tup (.cons (.bin (.add false) (.cst (.int 9)) (.var 4)) .nil))))
 .nil)
 .nil)
 (.cons (.expr (.mt .append (.var 3) (.cons (.var 6) .nil)))
 .nil)))))
 (.cons (.ret (.bi .tuple (.cons (.srtset false (.var 3)) .nil)))
 .nil)))⟩
def f_as_due : Fd := ⟨["_law_game_here", "_law_saying_here", "_law_arrows_here"], ["_law_game_here", "_law_saying_here", "_law_arrows_here", "_law_places", "_law_found", "_law_stand", "_law_ends", "_law_letter", "_law_own", "_law_there", "_law_targets", "_law_arrow", "_law_k", "_law_target"],
 (.cons (.asg (.tg (.nm 3)) (.bi .len (.cons (.ix (.var 0) (.cst (.int 0))) .nil)))
 (.cons (.asg (.tg (.nm 4)) (.lst true .nil))
 (.cons (.fr (.nm 5) (.rng1 (.bin (.add false) (.bin .mul (.cst (.int 2)) (.var 3)) (.ix (.var 1) (.cst (.int 0)))))
 (.cons (.fr (.nm 7) (.rng1 (.bi .len (.cons (.ix (.var 0) (.cst (.int 1))) .nil)))
 (.cons (.asg (.tg (.nm 8)) (.ix (.lst false (.cons (.var 5) (.cons (.bin .sub (.var 5) (.var 3)) .nil))) (.bi .int (.cons (.cmp .ge (.var 5) (.var 3)) .nil))))
 (.cons (.asg (.tg (.nm 9)) (.bi (.x (.srt false)) (.cons (.comp false [("_law_arrow", 11)] (.nm 11) (.val (.var 2)) (.yes (.cmp .eq (.sl false (.var 11) .no (.yes (.cst (.int 2)))) (.tup (.cons (.var 8) (.cons (.var 7) .nil))))) (.ix (.var 11) (.cst (.int 2)))) .nil)))
 (.cons (.asg (.tg (.nm 9)) (.comp false [("_law_k", 12), ("_law_targets", 10)] (.tp (.cons (.nm 12) (.cons (.nm 10) .nil))) (.enum (.var 9)) (.yes (.cmp .notin (.var 10) (.sl false (.var 9) .no (.yes (.var 12))))) (.var 10)))
 (.cons (.fr (.nm 10) (.val (.var 9))
 (.cons (.expr (.mt .append (.var 4) (.cons (.tup (.cons (.var 5) (.cons (.var 7) (.cons (.bi .tuple (.cons (.comp false [("_law_target", 13)] (.nm 13) (.val (.var 10)) .no (.bin (.add false) (.var 3) (.var 13))) .nil)) .nil)))) .nil)))
 .nil))
 .nil)))))
 .nil))
 (.cons (.asg (.tg (.nm 6)) (.comp false [("_law_stand", 5)] (.nm 5) (.val (.ix (.var 1) (.cst (.int 2)))) (.yes (.cmp .lt (.var 5) (.var 3))) (.var 5)))
 (.cons (.ret (.tup (.cons (.bin (.add false) (.var 3) (.ix (.var 1) (.cst (.int 0)))) (.cons (.bi .tuple (.cons (.var 4) .nil)) (.cons (.bi .tuple (.cons (.bin (.add false) (.var 6) (.comp false [("_law_stand", 5)] (.nm 5) (.val (.ix (.var 1) (.cst (.int 2)))) .no (.bin (.add false) (.var 3) (.var 5)))) .nil)) .nil)))))
 .nil)))))⟩
/-- the own stands of one arrow of a machine -/
def oneA (P : Int) (a : Ar) : List Ar := ⟨P + a.q, a.l, a.ts.map (P + ·), none⟩ :: if a.q < P then [⟨a.q, a.l, a.ts.map (P + ·), none⟩] else []
def endsA (P : Int) (ends : List Int) : List Int := ends.filter (fun e => decide (e < P)) ++ ends.map (P + ·)
def ASI (xs : List Ar) (P : Int) (base : Rho) (r : List Vl) (ρ : Rho) (S : Store) : Prop := ∃ done rest : List Ar, xs = done ++ rest ∧ r = rest.map (fun a => Vl.d (arD a)) ∧ S = [.lst (((done.flatMap (oneA P)).map arD).map .d)] ∧ ∃ o6 o7 o8 o9 o10, ρ = base ++ [some (.loc 0), none, o6, o7, o8, o9, o10, none]
section
variable {gl : Str → Option PyData} {T : List (Str × Fd)} {k : Nat} {R S : Store}
variable {g : Gm} {n : Int} {as : List Ar} {ends : List Int}
theorem len_oneA (P : Int) : ∀ xs : List Ar, (xs.flatMap (oneA P)).length ≤ 2 * xs.length
  | [] => by simp
  | x :: xs => by
    have := len_oneA P xs
    have h1 : (oneA P x).length ≤ 2 := by unfold oneA; split <;> simp
    rw [List.flatMap_cons, List.length_append, List.length_cons]
    omega
theorem fm_lt (P : Int) : ∀ is : List Int, is.filterMap (fun i => if i < P then some (PyData.int i) else none) = (is.filter (fun e => decide (e < P))).map .int
  | [] => rfl
  | i :: is => by
    rw [List.filterMap_cons, List.filter_cons, fm_lt P is]
    by_cases c : i < P <;> simp [c]
theorem put_A (A : List Ar) (a : Ar) (h : A.length ≤ 1000) : mtV .append (.loc 0) [.d (arD a)] [.lst ((A.map arD).map .d)] = .ok (.d .none) [.lst (((A ++ [a]).map arD).map .d)] := by
  have sz := sz_eq
  rw [app_eq (S := [.lst ((A.map arD).map .d)]) (n := 0) rfl (by simp; omega)]
  simp
theorem assay_ok {xs : List Ar} (hT : T.lookup ("as_saying" : Str) = some f_as_saying) (hg : GmOk g) (hl : xs.length ≤ 24) (hc : ∀ a ∈ xs, a.c.isSome = true ∧ a.ts.length ≤ 1000) (he : ends.length ≤ 1000) :
    Ok (fnAt gl T (k + 1) "as_saying" [.d (gD g), .d (sayD n as ends), .d (.tuple (xs.map arD))] []) (fun v _ => v = .d (.tuple [.int (g.pl.length + n), .tuple (srtD (unl ((xs.flatMap (oneA g.pl.length)).map arD))), plT (endsA g.pl.length ends)])) E0 := by
  have sz := sz_eq
  rw [ok_fn hT, ok_run]
  refine ⟨rfl, ?_⟩
  unfold f_as_saying
  obtain ⟨base, hb⟩ : ∃ base, base = [some (Vl.d (gD g)), some (.d (sayD n as ends)), some (.d (.tuple (xs.map arD))), some (.d (.int g.pl.length))] := ⟨_, rfl⟩
  refine ok_seq (fun ρ S => S = [] ∧ ρ = base ++ [none, none, none, none, none, none, none, none]) (by rw [hb]; simp [gD]) ?_
  rintro ρ S1 ⟨rfl, rfl⟩
  refine ok_seq (fun ρ S => S = [.lst []] ∧ ρ = base ++ [some (.loc 0), none, none, none, none, none, none, none]) (by rw [hb]; simp) ?_
  rintro ρ S1 ⟨rfl, rfl⟩
  refine ok_seq (ASI xs g.pl.length base []) ?_ ?_
  · rw [hb]
    simp [-List.map_map]
    rw [show (xs.map arD).map Vl.d = xs.map fun a => Vl.d (arD a) by rw [List.map_map]; rfl]
    refine Ok.imp0 (Q := fun o S' => ∃ ρ', o = Fl.nx ρ' ∧ ASI xs g.pl.length base [] ρ' S') ?_ (fun o S' h => by rw [hb] at h; exact h)
    refine ok_for (ASI xs g.pl.length base) ?_ ?_ _ _ _ ?_
    · rintro x r ρ S ⟨done, rest, e1, hr, rfl, o6, o7, o8, o9, o10, rfl⟩
      cases rest with
      | nil => cases hr
      | cons a rest =>
        obtain ⟨rfl, rfl⟩ := List.cons.inj hr
        have ha := hc a (by rw [e1]; simp)
        have hdl : done.length + 1 ≤ 24 := by
          have := congrArg List.length e1
          simp at this; omega
        obtain ⟨q, l, ts, c⟩ := a
        obtain ⟨c, rfl⟩ := Option.isSome_iff_exists.mp ha.1
        have hts := ha.2
        dsimp only at hts
        refine ⟨trivial, ?_⟩
        rw [hb, show (fun a => Vl.d (arD a)) ⟨q, l, ts, some c⟩ = Vl.d (.tuple [.int q, .int l, plT ts, .int c]) from rfl]
        simp [plT, -List.map_map]
        rw [show (ts.map PyData.int).map Vl.d = ts.map (fun i => Vl.d (.int i)) by rw [List.map_map]; rfl]
        refine comp_fm (g := fun i => some (.int (g.pl.length + i))) (by omega) (fun i _ => by simp [wipeR]) ?_
        have et : ts.filterMap (fun i => some (PyData.int (g.pl.length + i))) = (ts.map ((g.pl.length : Int) + ·)).map .int := by
          rw [List.filterMap_eq_map', List.map_map]; rfl
        rw [et, newL_f, if_pos (by simp; omega)]
        have len1 : (done.flatMap (oneA g.pl.length)).length ≤ 2 * done.length := len_oneA _ _
        have gS : ([Ob.lst (((done.flatMap (oneA g.pl.length)).map arD).map Vl.d)] : Store)[0]? = some (.lst (((done.flatMap (oneA g.pl.length)).map arD).map .d)) := rfl
        obtain ⟨A, eA⟩ : ∃ A, A = done.flatMap (oneA g.pl.length) := ⟨_, rfl⟩
        rw [← eA] at len1 gS ⊢
        simp [-List.map_map]
        refine ⟨fun _ => ?_, isTy_loc gS⟩
        have p1 := put_A A ⟨g.pl.length + q, l, ts.map ((g.pl.length : Int) + ·), none⟩ (by omega)
        rw [show arD ⟨g.pl.length + q, l, ts.map ((g.pl.length : Int) + ·), none⟩ = .tuple [.int (g.pl.length + q), .int l, .tuple ((ts.map ((g.pl.length : Int) + ·)).map .int)] from rfl] at p1
        rw [p1]
        by_cases hq : q < g.pl.length
        · have p2 := put_A (A ++ [⟨g.pl.length + q, l, ts.map ((g.pl.length : Int) + ·), none⟩]) ⟨q, l, ts.map ((g.pl.length : Int) + ·), none⟩ (by simp; omega)
          rw [show arD ⟨q, l, ts.map ((g.pl.length : Int) + ·), none⟩ = .tuple [.int q, .int l, .tuple ((ts.map ((g.pl.length : Int) + ·)).map .int)] from rfl] at p2
          rw [ok_ok, if_pos hq]
          refine ⟨fun _ => ?_, rfl⟩
          rw [p2, ok_ok, ← hb]
          refine ⟨done ++ [⟨q, l, ts, some c⟩], rest, by rw [e1]; simp, rfl, ?_, _, _, _, _, _, by rw [hb]; rfl⟩
          rw [List.flatMap_append, ← eA]
          simp [oneA, hq]
        · rw [ok_ok, if_neg hq, ← hb]
          refine ⟨done ++ [⟨q, l, ts, some c⟩], rest, by rw [e1]; simp, rfl, ?_, _, _, _, _, _, by rw [hb]; rfl⟩
          rw [List.flatMap_append, ← eA]
          simp [oneA, hq]
    · intro ρ S h
      exact ⟨trivial, _, rfl, h⟩
    · exact ⟨[], xs, rfl, rfl, rfl, none, none, none, none, none, by rw [hb]; rfl⟩
  rintro ρ S1 ⟨done, rest, e1, hr, rfl, o6, o7, o8, o9, o10, rfl⟩
  have er : rest = [] := by simpa using hr.symm
  subst er
  rw [List.append_nil] at e1
  subst e1
  have len1 := len_oneA g.pl.length xs
  obtain ⟨A, eA⟩ : ∃ A, A = xs.flatMap (oneA g.pl.length) := ⟨_, rfl⟩
  rw [← eA] at len1 ⊢
  refine ok_seq (fun ρ S => S = [.lst ((A.map arD).map .d)] ∧ ρ = base ++ [some (.loc 0), some (.d (.list ((endsA g.pl.length ends).map .int))), o6, o7, o8, o9, o10, none]) ?_ ?_
  · rw [hb]
    simp [sayD, plT, -List.map_map]
    rw [show (ends.map PyData.int).map Vl.d = ends.map (fun i => Vl.d (.int i)) by rw [List.map_map]; rfl]
    refine comp_fm (g := fun i => if i < (g.pl.length : Int) then some (.int i) else none) (by omega) (fun i _ => ?_) ?_
    · by_cases c : i < (g.pl.length : Int)
      · simp [wipeR, c]
      · simp [wipeR, c]
    have et : ends.filterMap (fun i => if i < (g.pl.length : Int) then some (PyData.int i) else none) = (ends.filter (fun e => decide (e < (g.pl.length : Int)))).map .int := by
      exact fm_lt _ _
    have fl := List.length_filter_le (fun e : Int => decide (e < (g.pl.length : Int))) ends
    rw [et, newL_f, if_pos (by rw [List.length_map]; omega)]
    simp [-List.map_map]
    refine comp_fm (g := fun i => some (.int (g.pl.length + i))) (by omega) (fun i _ => by simp [wipeR]) ?_
    have et : ends.filterMap (fun i => some (PyData.int (g.pl.length + i))) = (ends.map ((g.pl.length : Int) + ·)).map .int := by
      rw [List.filterMap_eq_map', List.map_map]; rfl
    rw [et, newL_f, if_pos (by simp; omega)]
    simp [-List.map_map]
    rw [← List.map_append, ← List.map_append, newL_f, if_pos (by simp; omega)]
    exact ⟨rfl, rfl⟩
  rintro ρ S1 ⟨rfl, rfl⟩
  rw [ok_ss, hb]
  obtain ⟨bs, e3, e4, e5, _, _⟩ := srtset_loc (as := A) (n := 0) (S := [.lst ((A.map arD).map .d)]) rfl (by omega)
  simp [sayD, plT, -List.map_map, e3]
  exact e4
end
end DL

namespace DL
open PySem PySem.Spec PyProof.Rows L2
/-! ### rows of targets, sorted, each once -/
def srtL (tss : List (List Int)) : List (List Int) := tss.mergeSort fun a b => !ltI b a
theorem srt_pl {tss : List (List Int)} : srtD (tss.map plT) = (srtL tss).map plT := by
  unfold srtD srtL
  exact (PySem.W.sort_maps (r := fun a b : List Int => !ltI b a) (s := PySem.W.dataLe false id) plT (l := tss) (fun a _ b _ => (le_pl a b).symm)).symm
theorem alike_pl (a b : List Int) : PySem.W.alike (plT a) (plT b) = true := by
  unfold plT
  rw [PySem.W.alike]; exact alike_ints a b
theorem depth_pl (a : List Int) : (plT a).depth ≤ 1 := by
  simp [plT, PyData.depth, depth_ints]
theorem srtOk_pl {tss : List (List Int)} (h : tss.length ≤ sizeLine) : SrtOk (tss.map plT) := by
  refine ⟨fun d hd e he => ?_, .inl fun d hd => ?_, by rwa [List.length_map], fun d hd => ?_⟩
  · obtain ⟨a, _, rfl⟩ := List.mem_map.mp hd
    obtain ⟨b, _, rfl⟩ := List.mem_map.mp he
    exact alike_pl a b
  · obtain ⟨a, _, rfl⟩ := List.mem_map.mp hd
    exact ⟨_, rfl⟩
  · obtain ⟨a, _, rfl⟩ := List.mem_map.mp hd
    have := depth_pl a
    omega
theorem srtL_len (tss : List (List Int)) : (srtL tss).length = tss.length := (List.mergeSort_perm _ _).length_eq
theorem srtL_mem {tss : List (List Int)} {t : List Int} : t ∈ srtL tss ↔ t ∈ tss := (List.mergeSort_perm _ _).mem_iff
theorem srtL_pw (tss : List (List Int)) : (srtL tss).Pairwise fun a b => ltI b a = false := by
  have s1 : (srtD (tss.map plT)).Pairwise (fun a b => PySem.W.dataLe false id a b = true) := PySem.W.sort_pairwise (PySem.W.sortLe_total (listOrd itemOrd) false fun d : PyData => PySem.W.keyToks d) _
  rw [srt_pl] at s1
  exact (List.pairwise_map.mp s1).imp fun {a b} h => by rw [le_pl] at h; simpa using h
/-- each where it first stands -/
def kf (l : List (List Int)) : List (List Int) := (l.zipIdx.filter fun x => decide (x.1 ∉ l.take x.2)).map (·.1)
theorem zip_fst_id {α : Type} (l : List α) : l.zipIdx.map (·.1) = l := by simp
theorem kf_sub (l : List (List Int)) : (kf l).Sublist l := by
  have := (List.filter_sublist (l := l.zipIdx) (p := fun x => decide (x.1 ∉ l.take x.2))).map (·.1)
  rwa [zip_fst_id] at this
theorem kf_len (l : List (List Int)) : (kf l).length ≤ l.length := (kf_sub l).length_le
theorem kf_mem {l : List (List Int)} {x : List Int} : x ∈ kf l ↔ x ∈ l := by
  refine ⟨fun h => (kf_sub l).subset h, fun h => ?_⟩
  obtain ⟨i, hi⟩ := List.mem_iff_getElem?.mp h
  clear h
  induction i using Nat.strongRecOn with
  | ind i ih =>
    by_cases c : x ∈ l.take i
    · obtain ⟨j, hj⟩ := List.mem_iff_getElem?.mp c
      have hjl : j < i := by
        have := (List.getElem?_eq_some_iff.mp hj).1
        rw [List.length_take] at this
        omega
      rw [List.getElem?_take, if_pos hjl] at hj
      exact ih j hjl hj
    · exact List.mem_map.mpr ⟨(x, i), List.mem_filter.mpr ⟨List.mem_zipIdx_iff_getElem?.mpr hi, decide_eq_true c⟩, rfl⟩
theorem kf_nodup (l : List (List Int)) : (kf l).Nodup := by
  have pw : l.zipIdx.Pairwise fun a b => a.2 < b.2 := by
    rw [List.pairwise_iff_getElem]
    intro i j hi hj hij
    simp
    exact hij
  refine List.pairwise_map.mpr (List.Pairwise.imp_of_mem (fun {a b} ha hb h e => ?_) (pw.filter _))
  have h1 := List.mem_zipIdx_iff_getElem?.mp (List.mem_filter.mp ha).1
  have h2 := of_decide_eq_true (List.mem_filter.mp hb).2
  refine h2 ?_
  rw [← e]
  refine List.mem_iff_getElem?.mpr ⟨a.2, ?_⟩
  rw [List.getElem?_take, if_pos h]
  exact h1
/-! the rows that are due -/
def upto (k : Nat) : List Int := (List.range k).map fun i : Nat => (i : Int)
def ownS (P st : Int) : Int := if P ≤ st then st - P else st
def thr (xs : List Ar) (o l : Int) : List (List Int) := (xs.filter fun a => decide (a.q = o) && decide (a.l = l)).map (·.ts)
def cell (P : Int) (xs : List Ar) (st l : Int) : List Ar := (kf (srtL (thr xs (ownS P st) l))).map fun ts => ⟨st, l, ts.map (P + ·), none⟩
def rowA (P : Int) (L : Nat) (xs : List Ar) (st : Int) : List Ar := (upto L).flatMap (cell P xs st)
def dueA (P : Int) (N L : Nat) (xs : List Ar) : List Ar := (upto N).flatMap (rowA P L xs)
theorem thr_len (xs : List Ar) (o l : Int) : (thr xs o l).length ≤ xs.length := by
  unfold thr
  rw [List.length_map]; exact List.length_filter_le _ _
theorem cell_len (P : Int) (xs : List Ar) (st l : Int) : (cell P xs st l).length ≤ xs.length := by
  unfold cell
  rw [List.length_map]
  have h1 := kf_len (srtL (thr xs (ownS P st) l))
  rw [srtL_len] at h1
  have := thr_len xs (ownS P st) l
  omega
theorem flat_len {α β : Type} {f : α → List β} {c : Nat} : ∀ (l : List α), (∀ x ∈ l, (f x).length ≤ c) → (l.flatMap f).length ≤ l.length * c
  | [], _ => by simp
  | x :: l, h => by
    have h1 := h x (by simp)
    have h2 := flat_len l fun y hy => h y (by simp [hy])
    rw [List.flatMap_cons, List.length_append, List.length_cons, Nat.succ_mul]
    omega
theorem row_len (P : Int) (L : Nat) (xs : List Ar) (st : Int) : (rowA P L xs st).length ≤ L * xs.length := by
  have := flat_len (f := cell P xs st) (c := xs.length) (upto L) fun x _ => cell_len P xs st x
  rwa [show (upto L).length = L by simp [upto]] at this
theorem upto_pw (k : Nat) : (upto k).Pairwise (· < ·) := List.pairwise_map.mpr (List.pairwise_lt_range.imp fun h => by omega)
theorem upto_mem {k : Nat} {i : Int} : i ∈ upto k ↔ 0 ≤ i ∧ i < k := by
  unfold upto
  rw [List.mem_map]
  constructor
  · rintro ⟨j, hj, rfl⟩
    have := List.mem_range.mp hj
    omega
  · rintro ⟨h1, h2⟩
    exact ⟨i.toNat, List.mem_range.mpr (by omega), by omega⟩
theorem cell_pw (P : Int) (xs : List Ar) (st l : Int) : (cell P xs st l).Pairwise fun a b => a.q = b.q ∧ a.l = b.l ∧ ltI b.ts a.ts = false := by
  unfold cell
  refine List.pairwise_map.mpr (((srtL_pw _).sublist (kf_sub _)).imp fun {a b} h => ⟨rfl, rfl, ?_⟩)
  dsimp only
  rw [ltI_add]; exact h
theorem cell_nd (P : Int) (xs : List Ar) (st l : Int) : (cell P xs st l).Nodup := by
  unfold cell
  refine List.pairwise_map.mpr ((kf_nodup _).imp fun {a b} h e => h ?_)
  have := congrArg Ar.ts e
  dsimp only at this
  exact (List.map_inj_right fun x y h => by omega).mp this
theorem cell_mem {P : Int} {xs : List Ar} {st l : Int} {b : Ar} : b ∈ cell P xs st l ↔ ∃ a ∈ xs, a.q = ownS P st ∧ a.l = l ∧ b = ⟨st, l, a.ts.map (P + ·), none⟩ := by
  unfold cell
  rw [List.mem_map]
  constructor
  · rintro ⟨ts, h, rfl⟩
    obtain ⟨a, ha, rfl⟩ := List.mem_map.mp (srtL_mem.mp (kf_mem.mp h))
    obtain ⟨h1, h2⟩ := List.mem_filter.mp ha
    simp at h2
    exact ⟨a, h1, h2.1, h2.2, rfl⟩
  · rintro ⟨a, ha, h1, h2, rfl⟩
    refine ⟨a.ts, kf_mem.mpr (srtL_mem.mpr (List.mem_map.mpr ⟨a, List.mem_filter.mpr ⟨ha, by simp [h1, h2]⟩, rfl⟩)), rfl⟩
theorem due_mem {P : Int} {N L : Nat} {xs : List Ar} {b : Ar} : b ∈ dueA P N L xs ↔ ∃ a ∈ xs, (0 ≤ b.q ∧ b.q < N) ∧ (0 ≤ a.l ∧ a.l < L) ∧ a.q = ownS P b.q ∧ b = ⟨b.q, a.l, a.ts.map (P + ·), none⟩ := by
  unfold dueA rowA
  simp only [List.mem_flatMap, cell_mem, upto_mem]
  constructor
  · rintro ⟨st, hs, l, hl, a, ha, h1, h2, rfl⟩
    subst h2
    exact ⟨a, ha, hs, hl, h1, rfl⟩
  · rintro ⟨a, ha, hs, hl, h1, h2⟩
    exact ⟨b.q, hs, a.l, hl, a, ha, h1, rfl, h2⟩
def leA (a b : Ar) : Prop := a.q < b.q ∨ (a.q = b.q ∧ (a.l < b.l ∨ (a.l = b.l ∧ ltI b.ts a.ts = false)))
theorem due_pw (P : Int) (N L : Nat) (xs : List Ar) : (dueA P N L xs).Pairwise leA := by
  unfold dueA
  rw [List.pairwise_flatMap]
  refine ⟨fun st _ => ?_, (upto_pw N).imp fun {s t} h a ha b hb => .inl ?_⟩
  · unfold rowA
    rw [List.pairwise_flatMap]
    refine ⟨fun l _ => (cell_pw P xs st l).imp fun h => .inr ⟨h.1, .inr h.2⟩, (upto_pw L).imp fun {l m} h a ha b hb => ?_⟩
    obtain ⟨_, _, _, _, rfl⟩ := cell_mem.mp ha
    obtain ⟨_, _, _, _, rfl⟩ := cell_mem.mp hb
    exact .inr ⟨rfl, .inl h⟩
  · unfold rowA at ha hb
    simp only [List.mem_flatMap, cell_mem] at ha hb
    obtain ⟨_, _, _, _, _, _, rfl⟩ := ha
    obtain ⟨_, _, _, _, _, _, rfl⟩ := hb
    exact h
theorem due_nd (P : Int) (N L : Nat) (xs : List Ar) : (dueA P N L xs).Nodup := by
  unfold dueA
  show List.Pairwise (· ≠ ·) _
  rw [List.pairwise_flatMap]
  refine ⟨fun st _ => ?_, (upto_pw N).imp fun {s t} h a ha b hb e => ?_⟩
  · unfold rowA
    rw [List.pairwise_flatMap]
    refine ⟨fun l _ => cell_nd P xs st l, (upto_pw L).imp fun {l m} h a ha b hb e => ?_⟩
    obtain ⟨_, _, _, _, rfl⟩ := cell_mem.mp ha
    obtain ⟨_, _, _, _, rfl⟩ := cell_mem.mp hb
    have := congrArg Ar.l e
    dsimp only at this
    omega
  · unfold rowA at ha hb
    simp only [List.mem_flatMap, cell_mem] at ha hb
    obtain ⟨_, _, _, _, _, _, rfl⟩ := ha
    obtain ⟨_, _, _, _, _, _, rfl⟩ := hb
    have := congrArg Ar.q e
    dsimp only at this
    omega
/-- what is told is what is due -/
theorem told_due {P n : Int} {L : Nat} {xs : List Ar} (h0 : 0 ≤ P) (n0 : 0 ≤ n) (hx : ∀ a ∈ xs, (0 ≤ a.q ∧ a.q < P + n) ∧ (0 ≤ a.l ∧ a.l < L)) : srtD (unl ((xs.flatMap (oneA P)).map arD)) = (dueA P (2 * P + n).toNat L xs).map arD := by
  refine set_eq (due_nd _ _ _ _) (fun c hc => ?_) (fun b => ?_) ((due_pw _ _ _ _).imp_of_mem fun {a b} ha hb h => ?_)
  · obtain ⟨a, _, _, _, _, e⟩ := due_mem.mp hc
    rw [e]
  · rw [due_mem, List.mem_flatMap]
    constructor
    · rintro ⟨a, ha, hs, hl, h1, h2⟩
      refine ⟨a, ha, ?_⟩
      have hb := hx a ha
      unfold ownS at h1
      unfold oneA
      by_cases c : P ≤ b.q
      · rw [if_pos c] at h1
        rw [h2, show b.q = P + a.q by omega]
        exact List.mem_cons_self ..
      · rw [if_neg c] at h1
        rw [if_pos (by omega), h2, h1]
        simp
    · rintro ⟨a, ha, hb⟩
      have hz := hx a ha
      unfold oneA at hb
      rcases List.mem_cons.mp hb with rfl | hb
      · refine ⟨a, ha, ⟨by dsimp only; omega, by dsimp only; omega⟩, hz.2, ?_, rfl⟩
        unfold ownS
        dsimp only
        rw [if_pos (by omega)]; omega
      · by_cases c : a.q < P
        · rw [if_pos c] at hb
          have := List.mem_singleton.mp hb
          subst this
          refine ⟨a, ha, ⟨hz.1.1, by dsimp only; omega⟩, hz.2, ?_, rfl⟩
          unfold ownS
          dsimp only
          rw [if_neg (by omega)]
        · rw [if_neg c] at hb
          cases hb
  · obtain ⟨_, _, _, _, _, e1⟩ := due_mem.mp ha
    obtain ⟨_, _, _, _, _, e2⟩ := due_mem.mp hb
    exact le_ar (by rw [e1]) (by rw [e2]) h
end DL

namespace DL
open PySem PySem.Spec PyProof.Rows L2
def TI3 (P st l : Int) (pre : List Ar) (all : List (List Int)) (base : Rho) (r : List Vl) (ρ : Rho) (S : Store) : Prop := ∃ done rest : List (List Int), all = done ++ rest ∧ r = rest.map (fun t => Vl.d (plT t)) ∧ S = [.lst (((pre ++ done.map fun ts => (⟨st, l, ts.map (P + ·), none⟩ : Ar)).map arD).map .d)] ∧ ∃ o10, ρ = base ++ [o10, none, none, none]
def TI2 (P st : Int) (L : Nat) (xs pre : List Ar) (base : Rho) (r : List Vl) (ρ : Rho) (S : Store) : Prop := ∃ done rest : List Int, upto L = done ++ rest ∧ r = rest.map (fun i => Vl.d (.int i)) ∧ S = [.lst (((pre ++ done.flatMap (cell P xs st)).map arD).map .d)] ∧ ∃ o7 o8 o9 o10, ρ = base ++ [o7, o8, o9, o10, none, none, none]
def TI1 (P : Int) (N L : Nat) (xs : List Ar) (base : Rho) (r : List Vl) (ρ : Rho) (S : Store) : Prop := ∃ done rest : List Int, upto N = done ++ rest ∧ r = rest.map (fun i => Vl.d (.int i)) ∧ S = [.lst (((done.flatMap (rowA P L xs)).map arD).map .d)] ∧ ∃ o5 o7 o8 o9 o10, ρ = base ++ [o5, none, o7, o8, o9, o10, none, none, none]
section
variable {gl : Str → Option PyData} {T : List (Str × Fd)} {k : Nat} {R S : Store}
variable {g : Gm} {n : Int} {as : List Ar} {ends : List Int}
theorem ixS0 : ixV (.d (sayD n as ends)) (.d (.int 0)) S = .ok (.d (.int n)) S := rfl
theorem ixS1 : ixV (.d (sayD n as ends)) (.d (.int 1)) S = .ok (.d (.tuple (as.map arD))) S := rfl
theorem ixS2 : ixV (.d (sayD n as ends)) (.d (.int 2)) S = .ok (.d (plT ends)) S := rfl
theorem ixG0 : ixV (.d (gD g)) (.d (.int 0)) S = .ok (.d (.tuple (g.pl.map pD))) S := rfl
theorem ixG1 : ixV (.d (gD g)) (.d (.int 1)) S = .ok (.d (.tuple (g.lt.map .str))) S := rfl
theorem newL2b {a b : PyData} : newL false [.d a, .d b] S = .ok (.d (.list [a, b])) S := by
  rw [show ([Vl.d a, Vl.d b]) = [a, b].map .d from rfl, newL_f]; exact if_pos (show 2 ≤ sizeLine by decide)
theorem ixLb0 {a b : PyData} : ixV (.d (.list [a, b])) (.d (.int 0)) S = .ok (.d a) S := by
  show ofO ((atI [a, b] 0).map Vl.d) S = _
  rfl
theorem ixLb1 {a b : PyData} : ixV (.d (.list [a, b])) (.d (.int 1)) S = .ok (.d b) S := by
  show ofO ((atI [a, b] 1).map Vl.d) S = _
  rfl
theorem seqD_list {ds : List PyData} : seqD S (.d (.list ds)) = some ds := by
  show pds (ds.map .d) = _
  rw [pds_map]
theorem srt_dl {ds : List PyData} (ok : SrtOk ds) : biV (.x (.srt false)) [.d (.list ds)] S = newL false ((srtD ds).map .d) S := by
  show bxV (.srt false) (.d (.list ds)) S = _
  unfold bxV itemsC
  simp only [seqD_list]
  rw [if_pos ok]
theorem enum_list {ds : List PyData} : enumV (.d (.list ds)) S = .ok ⟨enumL ds, none⟩ S := by
  unfold enumV
  simp only [seqD_list]
  rfl
theorem eqv_plT2 (a b : List Int) : PyData.eqv (plT a) (plT b) = decide (a = b) := by
  unfold plT
  rw [PyData.eqv, eqv_ints]
theorem cut_take {α : Type} (xs : List α) (k : Nat) : cutL xs none (some (k : Int)) = xs.take k := by
  unfold cutL
  rw [HT.sIx_nat]
  show (xs.drop 0).take (min k xs.length - 0) = _
  rw [List.drop_zero, Nat.sub_zero, ← List.take_eq_take_min]
theorem thr_fm : ∀ (xs : List Ar) (o l : Int), xs.filterMap (fun a => if a.q = o ∧ a.l = l then some (plT a.ts) else none) = (thr xs o l).map plT
  | [], _, _ => rfl
  | x :: xs, o, l => by
    have ih := thr_fm xs o l
    unfold thr at ih ⊢
    rw [List.filterMap_cons, List.filter_cons, ih]
    by_cases c : x.q = o ∧ x.l = l <;> simp [c]
theorem kf_fm (l : List (List Int)) : ∀ zs : List (List Int × Nat), zs.filterMap (fun x => if x.1 ∈ l.take x.2 then none else some (plT x.1)) = ((zs.filter fun x => decide (x.1 ∉ l.take x.2)).map (·.1)).map plT
  | [] => rfl
  | z :: zs => by
    rw [List.filterMap_cons, List.filter_cons, kf_fm l zs]
    by_cases c : z.1 ∈ l.take z.2 <;> simp [c]
theorem asdue_ok {xs : List Ar} (hT : T.lookup ("_law_due" : Str) = some f_as_due) (hg : GmOk g) (n0 : 0 ≤ n) (n2 : n ≤ 2) (hl : xs.length ≤ 24) (hc : ∀ a ∈ xs, a.c.isSome = true ∧ a.ts.length ≤ 1000) (he : ends.length ≤ 1000) :
    Ok (fnAt gl T (k + 1) "_law_due" [.d (gD g), .d (sayD n as ends), .d (.tuple (xs.map arD))] []) (fun v _ => v = .d (.tuple [.int (g.pl.length + n), .tuple ((dueA g.pl.length (2 * g.pl.length + n).toNat g.lt.length xs).map arD), plT (endsA g.pl.length ends)])) E0 := by
  have sz := sz_eq
  have p3 := hg.p3
  have l3 := hg.l3
  rw [ok_fn hT, ok_run]
  refine ⟨rfl, ?_⟩
  unfold f_as_due
  obtain ⟨base, hb⟩ : ∃ base, base = [some (Vl.d (gD g)), some (.d (sayD n as ends)), some (.d (.tuple (xs.map arD))), some (.d (.int g.pl.length)), some (.loc 0)] := ⟨_, rfl⟩
  refine ok_seq (fun ρ S => S = [] ∧ ρ = [some (Vl.d (gD g)), some (.d (sayD n as ends)), some (.d (.tuple (xs.map arD))), some (.d (.int g.pl.length)), none, none, none, none, none, none, none, none, none, none]) (by simp [gD]) ?_
  rintro ρ S1 ⟨rfl, rfl⟩
  refine ok_seq (fun ρ S => S = [.lst []] ∧ ρ = base ++ [none, none, none, none, none, none, none, none, none]) (by rw [hb]; simp) ?_
  rintro ρ S1 ⟨rfl, rfl⟩
  obtain ⟨N, hN⟩ : ∃ N, N = (2 * (g.pl.length : Int) + n).toNat := ⟨_, rfl⟩
  rw [← hN]
  have hN8 : N ≤ 8 := by omega
  refine ok_seq (TI1 g.pl.length N g.lt.length xs base []) ?_ ?_
  · rw [hb]
    simp [ixS0, -List.map_map]
    rw [← hN]
    refine ⟨fun _ _ => ?_, by omega, by omega⟩
    rw [show (List.range N).map (fun i : Nat => Vl.d (PyData.int (i : Int))) = (upto N).map (fun i => Vl.d (.int i)) by unfold upto; rw [List.map_map]; rfl]
    refine Ok.imp0 (Q := fun o S' => ∃ ρ', o = Fl.nx ρ' ∧ TI1 g.pl.length N g.lt.length xs base [] ρ' S') ?_ (fun o S' h => by rw [hb] at h; exact h)
    refine ok_for (TI1 g.pl.length N g.lt.length xs base) ?_ ?_ _ _ _ ⟨[], upto N, rfl, rfl, rfl, none, none, none, none, none, by rw [hb]; rfl⟩
    rotate_left
    · intro ρ S h
      exact ⟨trivial, _, rfl, h⟩
    rintro x r ρ S ⟨done, rest, e1, hr, rfl, o5, o7, o8, o9, o10, rfl⟩
    cases rest with
    | nil => cases hr
    | cons st rest =>
    obtain ⟨rfl, rfl⟩ := List.cons.inj hr
    refine ⟨trivial, ?_⟩
    have hs := upto_mem.mp (show st ∈ upto N by rw [e1]; simp)
    have hdl : done.length + 1 ≤ 8 := by
      have := congrArg List.length e1
      simp [upto] at this; omega
    obtain ⟨A, eA⟩ : ∃ A, A = done.flatMap (rowA g.pl.length g.lt.length xs) := ⟨_, rfl⟩
    have hA : A.length ≤ 504 := by
      have h1 := flat_len (f := rowA g.pl.length g.lt.length xs) (c := 72) done fun x _ => Nat.le_trans (row_len _ _ _ _) (Nat.mul_le_mul l3 hl)
      rw [eA]; omega
    rw [← eA]
    obtain ⟨base6, hb6⟩ : ∃ b, b = base ++ [some (.d (.int st)), none] := ⟨_, rfl⟩
    rw [hb]
    simp [ixG1, -List.map_map]
    refine ⟨fun _ => ?_, by omega⟩
    rw [show (List.range g.lt.length).map (fun i : Nat => Vl.d (PyData.int (i : Int))) = (upto g.lt.length).map (fun i => Vl.d (.int i)) by unfold upto; rw [List.map_map]; rfl]
    refine Ok.imp0 (Q := fun o S' => ∃ ρ', o = Fl.nx ρ' ∧ TI2 g.pl.length st g.lt.length xs A base6 [] ρ' S') ?_ ?_
    rotate_left
    · rintro o S' ⟨ρ', rfl, done2, rest2, e2, hr2, rfl, o7, o8, o9, o10, rfl⟩
      have er : rest2 = [] := by simpa using hr2.symm
      subst er
      rw [List.append_nil] at e2
      subst e2
      refine ⟨done ++ [st], rest, by rw [e1]; simp, rfl, ?_, some (.d (.int st)), o7, o8, o9, o10, by rw [hb6, hb]; rfl⟩
      rw [List.flatMap_append, ← eA]
      simp [rowA]
    refine ok_for (TI2 g.pl.length st g.lt.length xs A base6) ?_ ?_ _ _ _ ⟨[], upto g.lt.length, rfl, rfl, by simp, o7, o8, o9, o10, by rw [hb6, hb]; rfl⟩
    rotate_left
    · intro ρ S h
      exact ⟨trivial, _, rfl, h⟩
    rintro x r ρ S ⟨done2, rest2, e2, hr2, rfl, o7, o8, o9, o10, rfl⟩
    cases rest2 with
    | nil => cases hr2
    | cons l rest2 =>
    obtain ⟨rfl, rfl⟩ := List.cons.inj hr2
    refine ⟨trivial, ?_⟩
    have hdl2 : done2.length + 1 ≤ 3 := by
      have := congrArg List.length e2
      simp [upto] at this; omega
    obtain ⟨B, eB⟩ : ∃ B, B = A ++ done2.flatMap (cell g.pl.length xs st) := ⟨_, rfl⟩
    have hB : B.length ≤ 552 := by
      have h1 := flat_len (f := cell g.pl.length xs st) (c := 24) done2 fun x _ => Nat.le_trans (cell_len _ _ _ _) hl
      rw [eB, List.length_append]; omega
    rw [← eB]
    obtain ⟨S9, hS9⟩ : ∃ S9 : Store, S9 = [.lst ((B.map arD).map .d)] := ⟨_, rfl⟩
    rw [← hS9]
    rw [ok_frB]
    refine ⟨base6 ++ [some (.d (.int l)), o8, o9, o10, none, none, none], by rw [hb6, hb]; rfl, ?_⟩
    refine ok_seq (fun ρ S => S9 = S ∧ ρ = base6 ++ [some (.d (.int l)), some (.d (.int (ownS g.pl.length st))), o9, o10, none, none, none]) ?_ ?_
    · rw [hb6, hb]
      simp [-List.map_map]
      unfold ownS
      by_cases c : (g.pl.length : Int) ≤ st
      · rw [if_pos c, if_pos c]; rfl
      · rw [if_neg c, if_neg c]; rfl
    rintro ρ S ⟨rfl, rfl⟩
    obtain ⟨Z, eZ⟩ : ∃ Z, Z = thr xs (ownS g.pl.length st) l := ⟨_, rfl⟩
    have hZ : Z.length ≤ 24 := by rw [eZ]; exact Nat.le_trans (thr_len _ _ _) hl
    refine ok_seq (fun ρ S => S9 = S ∧ ρ = base6 ++ [some (.d (.int l)), some (.d (.int (ownS g.pl.length st))), some (.d (.list ((srtL Z).map plT))), o10, none, none, none]) ?_ ?_
    · rw [hb6, hb]
      simp [-List.map_map]
      rw [show (xs.map arD).map Vl.d = xs.map fun a => Vl.d (arD a) by rw [List.map_map]; rfl]
      refine comp_fm (g := fun a => if a.q = ownS g.pl.length st ∧ a.l = l then some (plT a.ts) else none) (by omega) (fun a ha => ?_) ?_
      · obtain ⟨q, l', ts, c⟩ := a
        obtain ⟨c, rfl⟩ := Option.isSome_iff_exists.mp (hc _ ha).1
        have nr : near (PyData.tuple [PyData.int q, PyData.int l']) (PyData.tuple [PyData.int (ownS g.pl.length st), PyData.int l]) = true := near_of (by simp [PyData.depth, PyData.depthAll])
        have ev : PyData.eqv (PyData.tuple [PyData.int q, PyData.int l']) (PyData.tuple [PyData.int (ownS g.pl.length st), PyData.int l]) = decide (q = ownS g.pl.length st ∧ l' = l) := by
          simp [PyData.eqv, PyData.eqvAll]
          by_cases a : q = ownS g.pl.length st <;> by_cases b : l' = l <;> simp [a, b]
        rw [show arD ⟨q, l', ts, some c⟩ = .tuple [.int q, .int l', plT ts, .int c] from rfl]
        by_cases cc : q = ownS g.pl.length st ∧ l' = l
        · rw [decide_eq_true cc] at ev
          simp [wipeR, cut2, cmp_eqd nr, ev, -List.map_map]
          exact cc
        · rw [decide_eq_false cc] at ev
          simp [wipeR, cut2, cmp_eqd nr, ev, -List.map_map]
          exact fun a b => cc ⟨a, b⟩
      · have et : xs.filterMap (fun a => if a.q = ownS g.pl.length st ∧ a.l = l then some (plT a.ts) else none) = Z.map plT := by
          rw [eZ]
          exact thr_fm xs _ _
        rw [et, newL_f, if_pos (by simp; omega)]
        simp [-List.map_map]
        rw [srt_dl (srtOk_pl (by omega)), srt_pl, newL_f, if_pos (by rw [List.length_map, srtL_len]; omega)]
        exact ⟨rfl, rfl⟩
    rintro ρ S' ⟨rfl, rfl⟩
    refine ok_seq (fun ρ S => S9 = S ∧ ρ = base6 ++ [some (.d (.int l)), some (.d (.int (ownS g.pl.length st))), some (.d (.list ((kf (srtL Z)).map plT))), o10, none, none, none]) ?_ ?_
    · rw [hb6, hb]
      simp [enum_list, -List.map_map]
      have e : enumL ((srtL Z).map plT) = (srtL Z).zipIdx.map fun p => Vl.d (.tuple [.int (p.2 : Int), plT p.1]) := by
        unfold enumL
        rw [List.zipIdx_map, List.map_map]
        rfl
      rw [e]
      refine comp_fm (g := fun x => if x.1 ∈ (srtL Z).take x.2 then none else some (plT x.1)) (by rw [List.length_zipIdx, srtL_len]; omega) (fun x hx => ?_) ?_
      · have d1 := depth_pl x.1
        have lt : ((srtL Z).take x.2).length ≤ sizeLine := by rw [List.length_take, srtL_len]; omega
        have an : (((srtL Z).take x.2).map plT).any (fun z => PyData.eqv z (plT x.1)) = decide (x.1 ∈ (srtL Z).take x.2) := by
          rw [List.any_map, Bool.eq_iff_iff]
          simp only [List.any_eq_true, Function.comp_apply, eqv_plT2, decide_eq_true_eq]
          exact ⟨fun ⟨z, hz, e⟩ => e ▸ hz, fun h => ⟨_, h, rfl⟩⟩
        have lt2 : (((srtL Z).take x.2).map plT).length ≤ sizeLine := by rw [List.length_map]; exact lt
        simp [wipeR, sl_list, cut_take, newL_f, -List.map_map, -List.map_take, -List.length_take]
        rw [← List.map_take]
        refine ⟨fun _ => ?_, lt2⟩
        rw [cmp_niL (by omega), an]
        by_cases c : x.1 ∈ (srtL Z).take x.2 <;> simp [c]
      · have et : (srtL Z).zipIdx.filterMap (fun x => if x.1 ∈ (srtL Z).take x.2 then none else some (plT x.1)) = (kf (srtL Z)).map plT := kf_fm _ _
        rw [et, newL_f, if_pos (by rw [List.length_map]; have := kf_len (srtL Z); rw [srtL_len] at this; omega)]
        exact ⟨rfl, rfl⟩
    rintro ρ S' ⟨rfl, rfl⟩
    rw [ok_ss]
    rw [hb6, hb]
    simp [-List.map_map]
    rw [show ((kf (srtL Z)).map plT).map Vl.d = (kf (srtL Z)).map fun t => Vl.d (plT t) by rw [List.map_map]; rfl]
    obtain ⟨base10, hb10⟩ : ∃ b, b = base6 ++ [some (.d (.int l)), some (.d (.int (ownS g.pl.length st))), some (.d (.list ((kf (srtL Z)).map plT)))] := ⟨_, rfl⟩
    refine Ok.imp0 (Q := fun o S' => ∃ ρ', o = Fl.nx ρ' ∧ TI3 g.pl.length st l B (kf (srtL Z)) base10 [] ρ' S') ?_ ?_
    rotate_left
    · rintro o S' ⟨ρ', rfl, done3, rest3, e3, hr3, rfl, o10, rfl⟩
      have er : rest3 = [] := by simpa using hr3.symm
      subst er
      rw [List.append_nil] at e3
      subst e3
      refine ⟨done2 ++ [l], rest2, by rw [e2]; simp, rfl, ?_, some (.d (.int l)), some (.d (.int (ownS g.pl.length st))), some (.d (.list ((kf (srtL Z)).map plT))), o10, by rw [hb10, hb6, hb]; rfl⟩
      rw [List.flatMap_append, ← List.append_assoc, ← eB]
      simp [cell, eZ]
    rw [hS9]
    refine ok_for (TI3 g.pl.length st l B (kf (srtL Z)) base10) ?_ ?_ _ _ _ ⟨[], kf (srtL Z), rfl, rfl, by simp, o10, by rw [hb10, hb6, hb]; rfl⟩
    rotate_left
    · intro ρ S h
      exact ⟨trivial, _, rfl, h⟩
    rintro x r ρ S ⟨done3, rest3, e3, hr3, rfl, o10, rfl⟩
    cases rest3 with
    | nil => cases hr3
    | cons ts rest3 =>
    obtain ⟨rfl, rfl⟩ := List.cons.inj hr3
    refine ⟨trivial, ?_⟩
    have kl := kf_len (srtL Z)
    rw [srtL_len] at kl
    have hdl3 : done3.length + 1 ≤ 24 := by
      have := congrArg List.length e3
      simp at this; omega
    obtain ⟨D, eD⟩ : ∃ D, D = B ++ done3.map fun ts => (⟨st, l, ts.map ((g.pl.length : Int) + ·), none⟩ : Ar) := ⟨_, rfl⟩
    have hD : D.length ≤ 600 := by rw [eD]; simp; omega
    have htl : ts.length ≤ 1000 := by
      have : ts ∈ kf (srtL Z) := by rw [e3]; simp
      rw [kf_mem, srtL_mem, eZ] at this
      obtain ⟨a, ha, rfl⟩ := List.mem_map.mp this
      exact (hc a (List.mem_filter.mp ha).1).2
    rw [← eD]
    rw [hb10, hb6, hb]
    simp [plT, -List.map_map]
    refine ⟨fun _ => ?_, rfl⟩
    rw [show (ts.map PyData.int).map Vl.d = ts.map (fun i => Vl.d (.int i)) by rw [List.map_map]; rfl]
    refine comp_fm (g := fun i => some (.int (g.pl.length + i))) (by omega) (fun i _ => by simp [wipeR]) ?_
    have et : ts.filterMap (fun i => some (PyData.int (g.pl.length + i))) = (ts.map ((g.pl.length : Int) + ·)).map .int := by
      rw [List.filterMap_eq_map', List.map_map]; rfl
    rw [et, newL_f, if_pos (by simp; omega)]
    simp [-List.map_map]
    have p1 := put_A D ⟨st, l, ts.map ((g.pl.length : Int) + ·), none⟩ (by omega)
    rw [show arD ⟨st, l, ts.map ((g.pl.length : Int) + ·), none⟩ = .tuple [.int st, .int l, .tuple ((ts.map ((g.pl.length : Int) + ·)).map .int)] from rfl] at p1
    rw [p1, ok_ok]
    refine ⟨done3 ++ [ts], rest3, by rw [e3]; simp, rfl, ?_, some (.d (plT ts)), rfl⟩
    rw [eD]; simp
  rintro ρ S1 ⟨done, rest, e1, hr, rfl, o5, o7, o8, o9, o10, rfl⟩
  have er : rest = [] := by simpa using hr.symm
  subst er
  rw [List.append_nil] at e1
  subst e1
  rw [show (upto N).flatMap (rowA g.pl.length g.lt.length xs) = dueA g.pl.length N g.lt.length xs from rfl]
  refine ok_seq (fun ρ S => S = [.lst (((dueA g.pl.length N g.lt.length xs).map arD).map .d)] ∧ ρ = base ++ [o5, some (.d (.list ((ends.filter (fun e => decide (e < (g.pl.length : Int)))).map .int))), o7, o8, o9, o10, none, none, none]) ?_ ?_
  · rw [hb]
    simp [ixS2, plT, -List.map_map]
    rw [show (ends.map PyData.int).map Vl.d = ends.map (fun i => Vl.d (.int i)) by rw [List.map_map]; rfl]
    refine comp_fm (g := fun i => if i < (g.pl.length : Int) then some (.int i) else none) (by omega) (fun i _ => ?_) ?_
    · by_cases c : i < (g.pl.length : Int)
      · simp [wipeR, c]
      · simp [wipeR, c]
    have fl := List.length_filter_le (fun e : Int => decide (e < (g.pl.length : Int))) ends
    rw [fm_lt, newL_f, if_pos (by rw [List.length_map]; omega)]
    exact ⟨rfl, rfl⟩
  rintro ρ S1 ⟨rfl, rfl⟩
  rw [ok_ss, hb]
  have gS : ([Ob.lst (((dueA g.pl.length N g.lt.length xs).map arD).map .d)] : Store)[0]? = some (.lst (((dueA g.pl.length N g.lt.length xs).map arD).map .d)) := rfl
  simp [ixS0, ixS2, plT, tup_loc gS, -List.map_map]
  rw [show (ends.map PyData.int).map Vl.d = ends.map (fun i => Vl.d (.int i)) by rw [List.map_map]; rfl]
  refine comp_fm (g := fun i => some (.int (g.pl.length + i))) (by omega) (fun i _ => by simp [wipeR]) ?_
  have et : ends.filterMap (fun i => some (PyData.int (g.pl.length + i))) = (ends.map ((g.pl.length : Int) + ·)).map .int := by
    rw [List.filterMap_eq_map', List.map_map]; rfl
  have fl := List.length_filter_le (fun e : Int => decide (e < (g.pl.length : Int))) ends
  rw [et, newL_f, if_pos (by simp; omega)]
  simp [-List.map_map]
  rw [← List.map_append, newL_f, if_pos (by simp; omega)]
  simp [-List.map_map]
  simp [endsA]
end
end DL

namespace DL
open PySem PySem.Spec PyProof.Rows L2
def f_as_sayingL : Fd := ⟨["_law_deal_here", "_law_game_here", "_law_own", "_law_many", "_law_most"], ["_law_deal_here", "_law_game_here", "_law_own", "_law_many", "_law_most", "_law_places", "_law_stands", "_law_arrows_here", "_law_k", "_law_arrow"],
 (.cons (.asg (.tg (.nm 5)) (.bi .len (.cons (.ix (.var 1) (.cst (.int 0))) .nil)))
 (.cons (.asg (.tg (.nm 6)) (.lrng1 false (.bin (.add false) (.var 5) (.call false "_law_draw" (.cons (.var 0) (.cons (.bin (.add false) (.var 2) (.cst (.int 1))) .nil))))))
 (.cons (.asg (.tg (.nm 7)) (.lst true .nil))
 (.cons (.fr (.nm 8) (.rng1 (.call false "_law_draw" (.cons (.var 0) (.cons (.bin (.add false) (.var 3) (.cst (.int 1))) .nil))))
 (.cons (.asg (.tg (.nm 9)) (.tup (.cons (.call false "_law_draw" (.cons (.var 0) (.cons (.bi .len (.cons (.var 6) .nil)) .nil))) (.cons (.call false "_law_draw" (.cons (.var 0) (.cons (.bi .len (.cons (.ix (.var 1) (.cst (.int 1))) .nil)) .nil))) (.cons (.call false "_law_some" (.cons (.var 0) (.cons (.sl false (.var 6) (.yes (.var 5)) .no) (.cons (.var 4) .nil)))) .nil)))))
 (.cons (.ife (.cmp .notin (.var 9) (.var 7))
 (.cons (.expr (.mt .append (.var 7) (.cons (.var 9) .nil)))
 .nil)
 .nil)
 .nil)))
 (.cons (.ret (.tup (.cons (.bin .sub (.bi .len (.cons (.var 6) .nil)) (.var 5)) (.cons (.bi .tuple (.cons (.bi (.x (.srt false)) (.cons (.var 7) .nil)) .nil)) (.cons (.call false "_law_some" (.cons (.var 0) (.cons (.var 6) (.cons (.bi .len (.cons (.var 6) .nil)) .nil)))) .nil)))))
 .nil)))))⟩
def f_law : Fd := ⟨["_law_script"], ["_law_script", "_law_deal_here", "_law_game_here", "_law_saying_here", "_law_arrows_here", "_law_other", "_law_some_here"],
 (.cons (.asg (.tg (.nm 1)) (.call false "_law_deal" (.cons (.var 0) (.cons (.cst (.int 0)) .nil))))
 (.cons (.asg (.tg (.nm 2)) (.call false "_law_game" (.cons (.var 1) (.cons (.tup (.cons (.cst (.int 3)) (.cons (.cst (.int 3)) (.cons (.cst (.int 8)) (.cons (.cst (.int 3)) .nil))))) (.cons (.cst (.int 2)) .nil)))))
 (.cons (.asg (.tg (.nm 3)) (.call false "_law_saying" (.cons (.var 1) (.cons (.var 2) (.cons (.cst (.int 2)) (.cons (.cst (.int 8)) (.cons (.cst (.int 2)) .nil)))))))
 (.cons (.asg (.tg (.nm 4)) (.call false "_law_arrows" (.cons (.var 1) (.cons (.var 2) (.cons (.bin (.add false) (.bi .len (.cons (.ix (.var 2) (.cst (.int 0))) .nil)) (.ix (.var 3) (.cst (.int 0)))) .nil)))))
 (.cons (.asg (.tg (.nm 5)) (.call false "_law_arrows" (.cons (.var 1) (.cons (.var 2) (.cons (.bin (.add false) (.bi .len (.cons (.ix (.var 2) (.cst (.int 0))) .nil)) (.ix (.var 3) (.cst (.int 0)))) .nil)))))
 (.cons (.fr (.nm 6) (.val (.lst false (.cons (.var 4) (.cons (.var 5) (.cons (.var 4) .nil)))))
 (.cons (.ife (.cmp .ne (.call true "as_saying" (.cons (.var 2) (.cons (.var 3) (.cons (.var 6) .nil)))) (.call true "_law_due" (.cons (.var 2) (.cons (.var 3) (.cons (.var 6) .nil)))))
 (.cons (.ret (.cst (.bool false)))
 .nil)
 .nil)
 .nil))
 (.cons (.ret (.cst (.bool true)))
 .nil)))))))⟩
def mOk (n L : Int) (a : Ar) : Prop := (0 ≤ a.q ∧ a.q < n) ∧ (0 ≤ a.l ∧ a.l < L) ∧ a.c.isSome = true ∧ a.ts.length ≤ 1000
def ASA (R : Store) (n L : Int) (base : Rho) (r : List Vl) (ρ : Rho) (S : Store) : Prop := (∀ x ∈ r, ∃ i : Nat, x = .d (.int (i : Int))) ∧ ∃ as : List Ar, as.length + r.length ≤ 12 ∧ (∀ a ∈ as, mOk n L a) ∧ Deal (R ++ [.lst ((as.map arD).map .d)]) S ∧ ∃ o1 o2 o3, ρ = base ++ [o1, o2, o3]
section
variable {gl : Str → Option PyData} {T : List (Str × Fd)} {k : Nat} {R S : Store}
theorem tmach_ok {g : Gm} {n : Nat} (t : TOk T) (hSm : T.lookup ("_law_some" : Str) = some f_t_some) (hT : T.lookup ("_law_arrows" : Str) = some f_as_arrows) (h : Deal R S) (hg : GmOk g) (n0 : 1 ≤ n) (n1 : n ≤ 100) :
    Ok (fnAt gl T (k + 3) "_law_arrows" [.loc 0, .d (gD g), .d (.int (n : Int))] S) (fun v S' => ∃ as : List Ar, v = .d (.tuple (as.map arD)) ∧ as.length ≤ 12 ∧ (∀ a ∈ as, mOk n g.lt.length a) ∧ DX R S') E0 := by
  have sz := sz_eq
  have hDk : ∀ {R S m}, Deal R S → 0 < m → m < 1073741824 → Ok (fnAt gl T (k + 2) "_law_draw" [.loc 0, .d (.int m)] S) (fun v S' => ∃ r, v = .d (.int r) ∧ 0 ≤ r ∧ r < m ∧ Deal R S') E0 := fun h h1 h2 => t.draw h h1 h2
  have l1 := hg.l1
  have l3 := hg.l3
  rw [ok_fn hT, ok_run]
  refine ⟨rfl, ?_⟩
  unfold f_as_arrows
  obtain ⟨base, hb⟩ : ∃ base, base = [some (Vl.loc 0), some (Vl.d (gD g)), some (Vl.d (.int (n : Int))), some (Vl.loc (R.length + 2))] := ⟨_, rfl⟩
  refine ok_seq (fun ρ S => Deal (R ++ [.lst []]) S ∧ ρ = base ++ [none, none, none]) ?_ ?_
  · rw [hb]
    simp [-List.map_map, h.len]
    exact h.push (.lst [])
  rintro ρ S1 ⟨h1, rfl⟩
  refine ok_seq (ASA R n g.lt.length base []) ?_ ?_
  · rw [hb]
    simp [-List.map_map]
    refine (hDk h1 (by decide) (by decide)).imp0 fun v S4 ⟨z, e, z0, z1, h4⟩ => ?_
    subst e
    simp [-List.map_map]
    refine ⟨fun _ _ => ?_, by omega, by omega⟩
    refine ok_for (I := ASA R n g.lt.length base) (fun x r ρ S h => ?_) (fun ρ S h => ?_) _ _ _ ⟨fun x hx => ?_, [], by simp; omega, by simp, h4, none, none, none, by rw [hb]; rfl⟩
    · obtain ⟨hi, as, hl, ha, hS, o1, o2, o3, rfl⟩ := h
      obtain ⟨i, rfl⟩ := hi x (by simp)
      have hi' : ∀ x ∈ r, ∃ i : Nat, x = Vl.d (.int (i : Int)) := fun y hy => hi y (by simp [hy])
      simp only [List.length_cons] at hl
      refine ⟨trivial, ?_⟩
      refine (ok_frB).mpr ⟨base ++ [some (.d (.int (i : Int))), o2, o3], by rw [hb]; rfl, ?_⟩
      refine ok_seq (fun ρ S => Deal (R ++ [.lst ((as.map arD).map .d)]) S ∧ ∃ ts : List Int, ts.length ≤ 1000 ∧ ρ = base ++ [some (.d (.int (i : Int))), some (.d (plT ts)), o3]) ?_ ?_
      · rw [hb]
        have := lrng_ok (S := S) (n := n) (by omega)
        simp [-List.map_map, this]
        refine (tsome_ok (k := k) (most := (n : Int)) t.dr hSm hS (by simp; omega) (by omega)).imp0 fun v S7 ⟨ts, e, t1, t2, h7⟩ => ?_
        subst e
        simp [-List.map_map]
        exact ⟨h7, ts, by omega, rfl⟩
      rintro ρ S5 ⟨h5, ts, htl, rfl⟩
      refine ok_seq (fun ρ S => Deal (R ++ [.lst ((as.map arD).map .d)]) S ∧ ∃ a : Ar, mOk n g.lt.length a ∧ ρ = base ++ [some (.d (.int (i : Int))), some (.d (plT ts)), some (.d (arD a))]) ?_ ?_
      · rw [hb]
        simp [-List.map_map]
        refine (hDk h5 (by omega) (by omega)).imp0 fun v S5 ⟨q, e, q0, q1, h5⟩ => ?_
        subst e
        simp [ixG1, -List.map_map]
        refine (hDk h5 (by omega) (by omega)).imp0 fun v S6 ⟨l, e, l0, l1, h6⟩ => ?_
        subst e
        simp [-List.map_map]
        refine (hDk h6 (by decide) (by decide)).imp0 fun v S7 ⟨c, e, c0, c1, h7⟩ => ?_
        subst e
        simp [-List.map_map]
        exact ⟨h7, ⟨q, l, ts, some c⟩, ⟨⟨q0, q1⟩, ⟨l0, l1⟩, rfl, htl⟩, by simp [arD]⟩
      rintro ρ S8 ⟨h8, a, hA, rfl⟩
      refine ok_seq (fun ρ S => Deal (R ++ [.lst ((as.map arD).map .d)]) S ∧ ∃ a : Ar, mOk n g.lt.length a ∧ ρ = base ++ [some (.d (.int (i : Int))), some (.d (plT ts)), some (.d (arD a))]) ?_ ?_
      · rw [hb]
        simp [-List.map_map, len_loc h8.last]
        refine ⟨fun hp => ?_, fun _ => ⟨h8, a, hA, rfl⟩⟩
        refine (hDk h8 (by decide) (by decide)).imp0 fun v S9 ⟨z, e, z0, z1, h9⟩ => ?_
        subst e
        by_cases cz : z = 0
        · subst cz
          simp [-List.map_map, len_loc h9.last]
          refine (hDk h9 (by omega) (by omega)).imp0 fun v S10 ⟨j, e, j0, j1, h10⟩ => ?_
          subst e
          obtain ⟨j, rfl⟩ := Int.eq_ofNat_of_zero_le j0
          have hj : j < as.length := by omega
          have ej : (as.map arD)[j]? = some (arD as[j]) := by rw [List.getElem?_map, List.getElem?_eq_getElem hj]; rfl
          rw [ix_loc h10.last ej, ok_ok]
          obtain ⟨⟨b1, b2⟩, ⟨b3, b4⟩, b5, b6⟩ := ha as[j] (List.getElem_mem _)
          generalize as[j] = b at b1 b2 b3 b4 b5 b6
          obtain ⟨q, l, ts, c⟩ := b
          obtain ⟨c, rfl⟩ := Option.isSome_iff_exists.mp b5
          rw [show arD ⟨q, l, ts, some c⟩ = .tuple [.int q, .int l, plT ts, .int c] from rfl]
          have c3 : cutL [PyData.int q, PyData.int l, plT ts, PyData.int c] none (some 3) = [PyData.int q, PyData.int l, plT ts] := rfl
          have e4 : 3 + 1 ≤ sizeLine := by decide
          simp [c3, e4, -List.map_map]
          exact ⟨h10, ⟨q, l, ts, some (9 + (i : Int))⟩, ⟨⟨b1, b2⟩, ⟨b3, b4⟩, rfl, b6⟩, rfl⟩
        · simp [cz, -List.map_map]
          exact ⟨h9, a, hA, rfl⟩
      rintro ρ S9 ⟨h9, a, hA, rfl⟩
      have lm : (List.map Vl.d (List.map arD as)).length = as.length := by simp
      have eap := app_eq (x := .d (arD a)) h9.last (by rw [lm]; omega)
      have put : ASA R n g.lt.length base r (base ++ [some (.d (.int (i : Int))), some (.d (plT ts)), some (.d (arD a))]) (S9.set (R.length + 2) (.lst ((as.map arD).map .d ++ [.d (arD a)]))) := by
        refine ⟨hi', as ++ [a], by simp; omega, fun b hb => ?_, ?_, _, _, _, rfl⟩
        · rcases List.mem_append.mp hb with hb | hb
          · exact ha b hb
          · rw [List.mem_singleton.mp hb]; exact hA
        · have := h9.putLast (.lst (((as ++ [a]).map arD).map .d))
          simpa using this
      rw [hb] at put ⊢
      simp [-List.map_map, eap, isTy_loc h9.last]
      exact put
    · exact ⟨trivial, ρ, rfl, by rw [hb] at h; exact h⟩
    · obtain ⟨i, hi, rfl⟩ := List.mem_map.mp hx
      exact ⟨i, by simp⟩
  rintro ρ S9 ⟨_, as, hl, ha, hS, o1, o2, o3, rfl⟩
  simp only [List.length_nil, Nat.add_zero] at hl
  obtain ⟨bs, e3, e4, e5, e6, e7⟩ := srtset_loc hS.last (by omega)
  rw [hb, ok_ss]
  simp [-List.map_map, e3]
  exact ⟨bs, rfl, by omega, fun a h => ha a ((e7 a).mp h), [_], hS⟩
end
def T48 : List (Str × Fd) := [("as_saying", f_as_saying), ("_law_deal", f_t_deal), ("_law_draw", f_t_draw), ("_law_names", f_t_names), ("_law_rule", f_t_rule), ("_law_rules", f_t_rules), ("_law_game", f_t_game), ("_law_some", f_t_some), ("_law_saying", f_as_sayingL), ("_law_pile", f_t_pile), ("_law_arrows", f_as_arrows), ("_law_due", f_as_due), ("law", f_law)]
def gl48 (_ : Str) : Option PyData := none
theorem lt48 : TOk T48 := ⟨rfl, rfl, rfl, rfl⟩
theorem mOk_in {P n : Int} {L : Nat} {a : Ar} (h : mOk (P + n) L a) : (0 ≤ a.q ∧ a.q < P + n) ∧ (0 ≤ a.l ∧ a.l < L) := ⟨h.1, h.2.1⟩
def I48 (g : Gm) (n : Int) (base : Rho) (r : List Vl) (ρ : Rho) (S : Store) : Prop := (∀ x ∈ r, ∃ xs : List Ar, (xs.length ≤ 12 ∧ ∀ a ∈ xs, mOk (g.pl.length + n) g.lt.length a) ∧ x = .d (.tuple (xs.map arD))) ∧ ∃ o, ρ = base ++ [o]
theorem depth_map {α : Type} {f : α → PyData} {c : Nat} (h : ∀ a, (f a).depth ≤ c) : ∀ l : List α, PyData.depthAll (l.map f) ≤ c
  | [] => by simp [PyData.depthAll]
  | a :: l => by
    have h1 := h a
    have h2 := depth_map h l
    simp only [List.map_cons, PyData.depthAll]
    omega
theorem lay_map {α : Type} {f : α → PyData} (h : ∀ a, (f a).canLay0 = true) : ∀ l : List α, PyData.canLayAll0 (l.map f) = true
  | [] => rfl
  | a :: l => by
    rw [List.map_cons, PyData.canLayAll0, h a, lay_map h l]; rfl
theorem lay_arD (a : Ar) : (arD a).canLay0 = true := by
  obtain ⟨q, l, ts, c⟩ := a
  cases c <;> simp [arD, plT, PyData.canLay0, PyData.canLayAll0, lay_ints]
theorem law48 (ns : List Int) (h : ns.length ≤ 63) : ∃ S', fnAt gl48 T48 40 "law" [.scr ns] [] = .ok (.d (.bool true)) S' := by
  have hsz : sizeLine = 16777216 := rfl
  suffices q : Ok (fnAt gl48 T48 40 "law" [.scr ns] []) (fun v _ => v = .d (.bool true)) E0 by
    cases e : fnAt gl48 T48 40 "law" [.scr ns] [] with
    | ok v S' => rw [e] at q; cases q; exact ⟨S', rfl⟩
    | ex c fs S' => rw [e] at q; exact q.elim
    | bad => rw [e] at q; exact q.elim
  rw [ok_fn (show T48.lookup ("law" : Str) = some f_law from rfl), ok_run]
  refine ⟨rfl, ?_⟩
  unfold f_law
  refine ok_seq (fun ρ S => Deal [] S ∧ ρ = [some (.scr ns), some (.loc 0), none, none, none, none, none]) ?_ ?_
  · simp
    refine (tdeal_ok (k := 38) (b := 0) (show T48.lookup ("_law_deal" : Str) = some f_t_deal from rfl) h (by decide)).imp0 fun v S' ⟨e, h1⟩ => ?_
    subst e
    simp [h1]
  rintro ρ S1 ⟨h1, rfl⟩
  refine ok_seq (fun ρ S => DX [] S ∧ ∃ g : Gm, GmOk g ∧ ρ = [some (.scr ns), some (.loc 0), some (.d (gD g)), none, none, none, none]) ?_ ?_
  · simp
    refine (tgame_ok (k := 35) lt48 rfl h1 (by decide) (by decide) (by decide) (by decide) (by decide) (by decide) (by decide)).imp0 fun v S' ⟨g, e, hg, _, _, _, _, _, h4⟩ => ?_
    subst e
    simp
    exact ⟨h4, g, hg, rfl⟩
  rintro ρ S4 ⟨⟨X4, h4⟩, g, hg, rfl⟩
  refine ok_seq (fun ρ S => DX [] S ∧ ∃ n as ends, SyOk g 2 8 2 n as ends ∧ ρ = [some (.scr ns), some (.loc 0), some (.d (gD g)), some (.d (sayD n as ends)), none, none, none]) ?_ ?_
  · simp
    refine (tsaying_okN (nm := f_as_sayingL.nm) rfl (k := 36) lt48 rfl rfl h4 hg (by decide) (by decide) (by decide) (by decide) (by decide)).imp0 fun v S' ⟨n, as, ends, e, hs, X, h5⟩ => ?_
    subst e
    simp
    exact ⟨⟨X4 ++ X, by simpa using h5⟩, n, as, ends, hs, rfl⟩
  rintro ρ S5 ⟨⟨X5, h5⟩, n, as, ends, hs, rfl⟩
  have p1 := hg.p1
  have p3 := hg.p3
  have l1 := hg.l1
  have n0 := hs.n0
  have n1 := hs.n1
  have hel : ends.length ≤ 1000 := by
    have e : ends.length ≤ ((List.range (g.pl.length + n.toNat)).map fun i : Nat => ((i : Nat) : Int)).length := nodup_len (hs.er.imp fun h e => by omega) fun x hx => by
      obtain ⟨a, b⟩ := hs.eb x hx
      exact List.mem_map.mpr ⟨x.toNat, List.mem_range.mpr (by omega), by omega⟩
    simp at e
    omega
  obtain ⟨w, hw⟩ : ∃ w : Nat, (w : Int) = g.pl.length + n := ⟨(g.pl.length + n).toNat, by omega⟩
  refine ok_seq (fun ρ S => DX [] S ∧ ∃ xs : List Ar, (xs.length ≤ 12 ∧ ∀ a ∈ xs, mOk (g.pl.length + n) g.lt.length a) ∧ ρ = [some (.scr ns), some (.loc 0), some (.d (gD g)), some (.d (sayD n as ends)), some (.d (.tuple (xs.map arD))), none, none]) ?_ ?_
  · simp [ixG0, ixS0, -List.map_map]
    rw [← hw]
    refine (tmach_ok (k := 36) lt48 rfl rfl h5 hg (by omega) (by omega)).imp0 fun v S' ⟨xs, e, x1, x2, X, h6⟩ => ?_
    subst e
    simp [-List.map_map]
    exact ⟨⟨X5 ++ X, by simpa using h6⟩, xs, ⟨x1, x2⟩, rfl⟩
  rintro ρ S6 ⟨⟨X6, h6⟩, xs, hxs, rfl⟩
  refine ok_seq (fun ρ S => ∃ ys : List Ar, (ys.length ≤ 12 ∧ ∀ a ∈ ys, mOk (g.pl.length + n) g.lt.length a) ∧ ρ = [some (.scr ns), some (.loc 0), some (.d (gD g)), some (.d (sayD n as ends)), some (.d (.tuple (xs.map arD))), some (.d (.tuple (ys.map arD))), none]) ?_ ?_
  · simp [ixG0, ixS0, -List.map_map]
    rw [← hw]
    refine (tmach_ok (k := 36) lt48 rfl rfl h6 hg (by omega) (by omega)).imp0 fun v S' ⟨ys, e, x1, x2, X, h7⟩ => ?_
    subst e
    simp [-List.map_map]
    exact ⟨ys, ⟨x1, x2⟩, rfl⟩
  rintro ρ S7 ⟨ys, hys, rfl⟩
  obtain ⟨base, hb⟩ : ∃ base, base = [some (Vl.scr ns), some (.loc 0), some (.d (gD g)), some (.d (sayD n as ends)), some (.d (.tuple (xs.map arD))), some (.d (.tuple (ys.map arD)))] := ⟨_, rfl⟩
  refine ok_seq (I48 g n base []) ?_ ?_
  rotate_left
  · rintro ρ S8 ⟨_, o, rfl⟩
    rw [hb, ok_ss]
    simp
  rw [hb]
  simp [-List.map_map]
  refine Ok.imp0 (Q := fun o S' => ∃ ρ', o = Fl.nx ρ' ∧ I48 g n base [] ρ' S') ?_ (fun o S' h => by rw [hb] at h; exact h)
  refine ok_for (I48 g n base) ?_ ?_ _ _ _ ⟨?_, none, by rw [hb]; rfl⟩
  · rintro x r ρ S ⟨hx, o, rfl⟩
    obtain ⟨zs, ⟨z1, z2⟩, rfl⟩ := hx x (by simp)
    refine ⟨trivial, ?_⟩
    rw [hb]
    simp [-List.map_map]
    have hc : ∀ a ∈ zs, a.c.isSome = true ∧ a.ts.length ≤ 1000 := fun a h => ⟨(z2 a h).2.2.1, (z2 a h).2.2.2⟩
    have c1 := assay_ok (gl := gl48) (T := T48) (k := 38) (n := n) (as := as) (ends := ends) rfl hg (by omega) hc hel
    have c2 := asdue_ok (gl := gl48) (T := T48) (k := 38) (n := n) (as := as) (ends := ends) rfl hg n0 n1 (by omega) hc hel
    rw [told_due (P := g.pl.length) (n := n) (L := g.lt.length) (xs := zs) (by omega) n0 fun a h => mOk_in (z2 a h)] at c1
    have nr : near (PyData.tuple [.int (g.pl.length + n), .tuple ((dueA g.pl.length (2 * g.pl.length + n).toNat g.lt.length zs).map arD), plT (endsA g.pl.length ends)]) (PyData.tuple [.int (g.pl.length + n), .tuple ((dueA g.pl.length (2 * g.pl.length + n).toNat g.lt.length zs).map arD), plT (endsA g.pl.length ends)]) = true := near_of (by
      have h1 := depth_map depth_ar (dueA g.pl.length (2 * g.pl.length + n).toNat g.lt.length zs)
      have h2 := depth_pl (endsA g.pl.length ends)
      simp [PyData.depth, PyData.depthAll]
      omega)
    have ev : PyData.eqv (PyData.tuple [.int (g.pl.length + n), .tuple ((dueA g.pl.length (2 * g.pl.length + n).toNat g.lt.length zs).map arD), plT (endsA g.pl.length ends)]) (PyData.tuple [.int (g.pl.length + n), .tuple ((dueA g.pl.length (2 * g.pl.length + n).toNat g.lt.length zs).map arD), plT (endsA g.pl.length ends)]) = true := SeqAt.eqv_refl _ (by
      simp [PyData.canLay0, PyData.canLayAll0, lay_map lay_arD, plT, lay_ints])
    generalize PyData.tuple [.int (g.pl.length + n), .tuple ((dueA g.pl.length (2 * g.pl.length + n).toNat g.lt.length zs).map arD), plT (endsA g.pl.length ends)] = D at c1 c2 nr ev
    refine c1.imp0 fun v _ e => ⟨D, e, ?_⟩
    refine c2.imp0 fun v _ e => ⟨D, e, ?_⟩
    rw [cmp_ned nr, ev]
    refine ⟨rfl, fun x h => hx x (by simp [h]), some (.d (.tuple (zs.map arD))), by rfl⟩
  · intro ρ S h
    exact ⟨trivial, _, rfl, h⟩
  · intro x hx
    simp only [List.mem_cons, List.not_mem_nil, or_false] at hx
    rcases hx with rfl | rfl | rfl
    · exact ⟨xs, hxs, rfl⟩
    · exact ⟨ys, hys, rfl⟩
    · exact ⟨xs, hxs, rfl⟩
end DL

namespace DL
open PySem PySem.Spec PyProof.Rows L2
def topS (i : Nat) : Stmt := PySem.Challenge.pw_pileduel_k48_machines_as_sayings.main.body.getD i (.Pass ⟨0, 0, 0, 0⟩)
def fsL : List Str := ["as_saying", "_law_deal", "_law_draw", "_law_names", "_law_rule", "_law_rules", "_law_game", "_law_some", "_law_saying", "_law_pile", "_law_arrows", "_law_due", "law"]
def clsB : Stmt → List Stmt
  | .ClassDef _ _ _ body _ _ _ _ _ _ _ => body
  | _ => []
def klL : Kl := ⟨[], [], []⟩
theorem envL {K : PySem.W.Frag} {w : World} {h : Heap} {mg : Str → Option Value} {od0 an0 : Option Addr} {sl0 : Array (Option Value)} {oc0 kV0 dc0 pm0 cd0 ct0 : Value} {f0 : Addr} {od1 an1 : Option Addr} {sl1 : Array (Option Value)} {oc1 kV1 dc1 pm1 cd1 ct1 : Value} {f1 : Addr} {od2 an2 : Option Addr} {sl2 : Array (Option Value)} {oc2 kV2 dc2 pm2 cd2 ct2 : Value} {f2 : Addr} {od3 an3 : Option Addr} {sl3 : Array (Option Value)} {oc3 kV3 dc3 pm3 cd3 ct3 : Value} {f3 : Addr} {od4 an4 : Option Addr} {sl4 : Array (Option Value)} {oc4 kV4 dc4 pm4 cd4 ct4 : Value} {f4 : Addr} {od5 an5 : Option Addr} {sl5 : Array (Option Value)} {oc5 kV5 dc5 pm5 cd5 ct5 : Value} {f5 : Addr} {od6 an6 : Option Addr} {sl6 : Array (Option Value)} {oc6 kV6 dc6 pm6 cd6 ct6 : Value} {f6 : Addr} {od7 an7 : Option Addr} {sl7 : Array (Option Value)} {oc7 kV7 dc7 pm7 cd7 ct7 : Value} {f7 : Addr} {od8 an8 : Option Addr} {sl8 : Array (Option Value)} {oc8 kV8 dc8 pm8 cd8 ct8 : Value} {f8 : Addr} {od9 an9 : Option Addr} {sl9 : Array (Option Value)} {oc9 kV9 dc9 pm9 cd9 ct9 : Value} {f9 : Addr} {od10 an10 : Option Addr} {sl10 : Array (Option Value)} {oc10 kV10 dc10 pm10 cd10 ct10 : Value} {f10 : Addr} {od11 an11 : Option Addr} {sl11 : Array (Option Value)} {oc11 kV11 dc11 pm11 cd11 ct11 : Value} {f11 : Addr} {od12 an12 : Option Addr} {sl12 : Array (Option Value)} {oc12 kV12 dc12 pm12 cd12 ct12 : Value} {f12 : Addr} (X : K.In h) (G : h.Ns mainGlobals mg)
    (a0 : PySem.W.nsIn K mainGlobals "as_saying" = some (some (.ref f0))) (l0 : K.lookup f0 = some ⟨oc0, od0, .func (PySem.W.fnOf "as_saying" "as_saying" (defArgs (topS 1)) (defBody (topS 1)) (defScope (topS 1)) .none kV0 dc0 pm0 an0 cd0 ct0), sl0⟩) (c0 : PySem.W.codeIn K cd0 "as_saying" = true) (k0 : PySem.W.keepIn K (.ref f0) = true)
    (a1 : PySem.W.nsIn K mainGlobals "_law_deal" = some (some (.ref f1))) (l1 : K.lookup f1 = some ⟨oc1, od1, .func (PySem.W.fnOf "_law_deal" "_law_deal" (defArgs (topS 3)) (defBody (topS 3)) (defScope (topS 3)) .none kV1 dc1 pm1 an1 cd1 ct1), sl1⟩) (c1 : PySem.W.codeIn K cd1 "_law_deal" = true) (k1 : PySem.W.keepIn K (.ref f1) = true)
    (a2 : PySem.W.nsIn K mainGlobals "_law_draw" = some (some (.ref f2))) (l2 : K.lookup f2 = some ⟨oc2, od2, .func (PySem.W.fnOf "_law_draw" "_law_draw" (defArgs (topS 4)) (defBody (topS 4)) (defScope (topS 4)) .none kV2 dc2 pm2 an2 cd2 ct2), sl2⟩) (c2 : PySem.W.codeIn K cd2 "_law_draw" = true) (k2 : PySem.W.keepIn K (.ref f2) = true)
    (a3 : PySem.W.nsIn K mainGlobals "_law_names" = some (some (.ref f3))) (l3 : K.lookup f3 = some ⟨oc3, od3, .func (PySem.W.fnOf "_law_names" "_law_names" (defArgs (topS 5)) (defBody (topS 5)) (defScope (topS 5)) .none kV3 dc3 pm3 an3 cd3 ct3), sl3⟩) (c3 : PySem.W.codeIn K cd3 "_law_names" = true) (k3 : PySem.W.keepIn K (.ref f3) = true)
    (a4 : PySem.W.nsIn K mainGlobals "_law_rule" = some (some (.ref f4))) (l4 : K.lookup f4 = some ⟨oc4, od4, .func (PySem.W.fnOf "_law_rule" "_law_rule" (defArgs (topS 6)) (defBody (topS 6)) (defScope (topS 6)) .none kV4 dc4 pm4 an4 cd4 ct4), sl4⟩) (c4 : PySem.W.codeIn K cd4 "_law_rule" = true) (k4 : PySem.W.keepIn K (.ref f4) = true)
    (a5 : PySem.W.nsIn K mainGlobals "_law_rules" = some (some (.ref f5))) (l5 : K.lookup f5 = some ⟨oc5, od5, .func (PySem.W.fnOf "_law_rules" "_law_rules" (defArgs (topS 7)) (defBody (topS 7)) (defScope (topS 7)) .none kV5 dc5 pm5 an5 cd5 ct5), sl5⟩) (c5 : PySem.W.codeIn K cd5 "_law_rules" = true) (k5 : PySem.W.keepIn K (.ref f5) = true)
    (a6 : PySem.W.nsIn K mainGlobals "_law_game" = some (some (.ref f6))) (l6 : K.lookup f6 = some ⟨oc6, od6, .func (PySem.W.fnOf "_law_game" "_law_game" (defArgs (topS 8)) (defBody (topS 8)) (defScope (topS 8)) .none kV6 dc6 pm6 an6 cd6 ct6), sl6⟩) (c6 : PySem.W.codeIn K cd6 "_law_game" = true) (k6 : PySem.W.keepIn K (.ref f6) = true)
    (a7 : PySem.W.nsIn K mainGlobals "_law_some" = some (some (.ref f7))) (l7 : K.lookup f7 = some ⟨oc7, od7, .func (PySem.W.fnOf "_law_some" "_law_some" (defArgs (topS 9)) (defBody (topS 9)) (defScope (topS 9)) .none kV7 dc7 pm7 an7 cd7 ct7), sl7⟩) (c7 : PySem.W.codeIn K cd7 "_law_some" = true) (k7 : PySem.W.keepIn K (.ref f7) = true)
    (a8 : PySem.W.nsIn K mainGlobals "_law_saying" = some (some (.ref f8))) (l8 : K.lookup f8 = some ⟨oc8, od8, .func (PySem.W.fnOf "_law_saying" "_law_saying" (defArgs (topS 10)) (defBody (topS 10)) (defScope (topS 10)) .none kV8 dc8 pm8 an8 cd8 ct8), sl8⟩) (c8 : PySem.W.codeIn K cd8 "_law_saying" = true) (k8 : PySem.W.keepIn K (.ref f8) = true)
    (a9 : PySem.W.nsIn K mainGlobals "_law_pile" = some (some (.ref f9))) (l9 : K.lookup f9 = some ⟨oc9, od9, .func (PySem.W.fnOf "_law_pile" "_law_pile" (defArgs (topS 11)) (defBody (topS 11)) (defScope (topS 11)) .none kV9 dc9 pm9 an9 cd9 ct9), sl9⟩) (c9 : PySem.W.codeIn K cd9 "_law_pile" = true) (k9 : PySem.W.keepIn K (.ref f9) = true)
    (a10 : PySem.W.nsIn K mainGlobals "_law_arrows" = some (some (.ref f10))) (l10 : K.lookup f10 = some ⟨oc10, od10, .func (PySem.W.fnOf "_law_arrows" "_law_arrows" (defArgs (topS 12)) (defBody (topS 12)) (defScope (topS 12)) .none kV10 dc10 pm10 an10 cd10 ct10), sl10⟩) (c10 : PySem.W.codeIn K cd10 "_law_arrows" = true) (k10 : PySem.W.keepIn K (.ref f10) = true)
    (a11 : PySem.W.nsIn K mainGlobals "_law_due" = some (some (.ref f11))) (l11 : K.lookup f11 = some ⟨oc11, od11, .func (PySem.W.fnOf "_law_due" "_law_due" (defArgs (topS 13)) (defBody (topS 13)) (defScope (topS 13)) .none kV11 dc11 pm11 an11 cd11 ct11), sl11⟩) (c11 : PySem.W.codeIn K cd11 "_law_due" = true) (k11 : PySem.W.keepIn K (.ref f11) = true)
    (a12 : PySem.W.nsIn K mainGlobals "law" = some (some (.ref f12))) (l12 : K.lookup f12 = some ⟨oc12, od12, .func (PySem.W.fnOf "law" "law" (defArgs (topS 14)) (defBody (topS 14)) (defScope (topS 14)) .none kV12 dc12 pm12 an12 cd12 ct12), sl12⟩) (c12 : PySem.W.codeIn K cd12 "law" = true) (k12 : PySem.W.keepIn K (.ref f12) = true)
    (z0 : PySem.W.nsIn K mainGlobals "len" = some none)
    (z1 : PySem.W.nsIn K mainGlobals "int" = some none)
    (z2 : PySem.W.nsIn K mainGlobals "str" = some none)
    (z3 : PySem.W.nsIn K mainGlobals "list" = some none)
    (z4 : PySem.W.nsIn K mainGlobals "tuple" = some none)
    (z5 : PySem.W.nsIn K mainGlobals "all" = some none)
    (z6 : PySem.W.nsIn K mainGlobals "any" = some none)
    (z7 : PySem.W.nsIn K mainGlobals "max" = some none)
    (z8 : PySem.W.nsIn K mainGlobals "min" = some none)
    (z9 : PySem.W.nsIn K mainGlobals "ord" = some none)
    (z10 : PySem.W.nsIn K mainGlobals "sum" = some none)
    (z11 : PySem.W.nsIn K mainGlobals "range" = some none)
    (z12 : PySem.W.nsIn K mainGlobals "enumerate" = some none)
    (z13 : PySem.W.nsIn K mainGlobals "reversed" = some none)
    (z14 : PySem.W.nsIn K mainGlobals "zip" = some none)
    (z15 : PySem.W.nsIn K mainGlobals "isinstance" = some none)
    (z16 : PySem.W.nsIn K mainGlobals "sorted" = some none)
    (z17 : PySem.W.nsIn K mainGlobals "set" = some none)
    (z18 : PySem.W.nsIn K mainGlobals "bool" = some none)
    (z19 : PySem.W.nsIn K mainGlobals "dict" = some none)
    (z20 : PySem.W.nsIn K mainGlobals "repr" = some none) : Env1 K mg ⟨clsOf K, w⟩ gl48 T48 fsL klL := by
  refine ⟨fun f d hf e => ?_, fun f e => ?_, fun g d e => ?_, fun b => ?_, ?_, fun k f e => ?_, fun k m e => ?_, fun k e => ?_⟩
  · have hf : fsL.contains f = true := hf
    simp only [fsL, List.contains_cons, List.contains_nil, Bool.or_eq_true, beq_iff_eq, Bool.or_false] at hf
    rcases hf with rfl | rfl | rfl | rfl | rfl | rfl | rfl | rfl | rfl | rfl | rfl | rfl | rfl
    · obtain rfl := Option.some.inj (e.symm.trans (show List.lookup _ _ = some f_as_saying from by rfl))
      exact fact_mk X G a0 l0 c0 k0 (by decide +kernel) (fun _ _ _ _ _ _ us hl => match us, hl with | [_, _, _], _ => rfl) (by decide +kernel)
    · obtain rfl := Option.some.inj (e.symm.trans (show List.lookup _ _ = some f_t_deal from by rfl))
      exact fact_mk X G a1 l1 c1 k1 (by decide +kernel) (fun _ _ _ _ _ _ us hl => match us, hl with | [_, _], _ => rfl) (by decide +kernel)
    · obtain rfl := Option.some.inj (e.symm.trans (show List.lookup _ _ = some f_t_draw from by rfl))
      exact fact_mk X G a2 l2 c2 k2 (by decide +kernel) (fun _ _ _ _ _ _ us hl => match us, hl with | [_, _], _ => rfl) (by decide +kernel)
    · obtain rfl := Option.some.inj (e.symm.trans (show List.lookup _ _ = some f_t_names from by rfl))
      exact fact_mk X G a3 l3 c3 k3 (by decide +kernel) (fun _ _ _ _ _ _ us hl => match us, hl with | [_, _], _ => rfl) (by decide +kernel)
    · obtain rfl := Option.some.inj (e.symm.trans (show List.lookup _ _ = some f_t_rule from by rfl))
      exact fact_mk X G a4 l4 c4 k4 (by decide +kernel) (fun _ _ _ _ _ _ us hl => match us, hl with | [_, _, _], _ => rfl) (by decide +kernel)
    · obtain rfl := Option.some.inj (e.symm.trans (show List.lookup _ _ = some f_t_rules from by rfl))
      exact fact_mk X G a5 l5 c5 k5 (by decide +kernel) (fun _ _ _ _ _ _ us hl => match us, hl with | [_, _, _, _, _], _ => rfl) (by decide +kernel)
    · obtain rfl := Option.some.inj (e.symm.trans (show List.lookup _ _ = some f_t_game from by rfl))
      exact fact_mk X G a6 l6 c6 k6 (by decide +kernel) (fun _ _ _ _ _ _ us hl => match us, hl with | [_, _, _], _ => rfl) (by decide +kernel)
    · obtain rfl := Option.some.inj (e.symm.trans (show List.lookup _ _ = some f_t_some from by rfl))
      exact fact_mk X G a7 l7 c7 k7 (by decide +kernel) (fun _ _ _ _ _ _ us hl => match us, hl with | [_, _, _], _ => rfl) (by decide +kernel)
    · obtain rfl := Option.some.inj (e.symm.trans (show List.lookup _ _ = some f_as_sayingL from by rfl))
      exact fact_mk X G a8 l8 c8 k8 (by decide +kernel) (fun _ _ _ _ _ _ us hl => match us, hl with | [_, _, _, _, _], _ => rfl) (by decide +kernel)
    · obtain rfl := Option.some.inj (e.symm.trans (show List.lookup _ _ = some f_t_pile from by rfl))
      exact fact_mk X G a9 l9 c9 k9 (by decide +kernel) (fun _ _ _ _ _ _ us hl => match us, hl with | [_, _, _], _ => rfl) (by decide +kernel)
    · obtain rfl := Option.some.inj (e.symm.trans (show List.lookup _ _ = some f_as_arrows from by rfl))
      exact fact_mk X G a10 l10 c10 k10 (by decide +kernel) (fun _ _ _ _ _ _ us hl => match us, hl with | [_, _, _], _ => rfl) (by decide +kernel)
    · obtain rfl := Option.some.inj (e.symm.trans (show List.lookup _ _ = some f_as_due from by rfl))
      exact fact_mk X G a11 l11 c11 k11 (by decide +kernel) (fun _ _ _ _ _ _ us hl => match us, hl with | [_, _, _], _ => rfl) (by decide +kernel)
    · obtain rfl := Option.some.inj (e.symm.trans (show List.lookup _ _ = some f_law from by rfl))
      exact fact_mk X G a12 l12 c12 k12 (by decide +kernel) (fun _ _ _ _ _ _ us hl => match us, hl with | [_], _ => rfl) (by decide +kernel)
  · have e : fsL.contains f = true := e
    simp only [fsL, List.contains_cons, List.contains_nil, Bool.or_eq_true, beq_iff_eq, Bool.or_false] at e
    rcases e with rfl | rfl | rfl | rfl | rfl | rfl | rfl | rfl | rfl | rfl | rfl | rfl | rfl <;> exact ⟨_, rfl⟩
  · cases e
  · cases b
    · exact PySem.W.mg_none_of X G z0
    · exact PySem.W.mg_none_of X G z1
    · exact PySem.W.mg_none_of X G z2
    · exact PySem.W.mg_none_of X G z3
    · exact PySem.W.mg_none_of X G z4
    · exact PySem.W.mg_none_of X G z5
    · exact PySem.W.mg_none_of X G z6
    · exact PySem.W.mg_none_of X G z7
    · exact PySem.W.mg_none_of X G z8
    · exact PySem.W.mg_none_of X G z9
    · exact PySem.W.mg_none_of X G z10
    · rename_i b; cases b
      · exact PySem.W.mg_none_of X G z16
      · exact PySem.W.mg_none_of X G z7
      · exact PySem.W.mg_none_of X G z8
      · exact PySem.W.mg_none_of X G z19
  · exact ⟨PySem.W.mg_none_of X G z11, PySem.W.mg_none_of X G z12, PySem.W.mg_none_of X G z13, PySem.W.mg_none_of X G z14, PySem.W.mg_none_of X G z15, PySem.W.mg_none_of X G z16, PySem.W.mg_none_of X G z17, PySem.W.mg_none_of X G z18, PySem.W.mg_none_of X G z19, PySem.W.mg_none_of X G z20⟩
  · simp [klL] at e
  · simp [klL] at e
  · simp [klL] at e
end DL
open PySem PySem.W PyProof.Rows
set_option maxRecDepth 100000 in
set_option maxHeartbeats 0 in
theorem PySem.Challenge.cw_pileduel_k48_machines_as_sayings_holds : PySem.Challenge.rw_pileduel_k48_machines_as_sayings.Holds := by
  w_on; o_law; k_head; (case hw => w_witness2)
  k_fill
  refine DL.walk (l := PySem.Challenge.rw_pileduel_k48_machines_as_sayings) (gl := DL.gl48) (T := DL.T48) (fs := DL.fsL) (kl := DL.klL) (k := 40) (dl := DL.f_law) (x := "_law_script") rfl rfl rfl rfl rfl rfl ⟨rfl, by decide, by decide⟩ DL.law48 (fun w h Y => PySem.W.kIn_of Y) ?F
  case F =>
    intro w mg h KX G
    refine' DL.envL KX G ?a0 ?l0 ?c0 ?k0 ?a1 ?l1 ?c1 ?k1 ?a2 ?l2 ?c2 ?k2 ?a3 ?l3 ?c3 ?k3 ?a4 ?l4 ?c4 ?k4 ?a5 ?l5 ?c5 ?k5 ?a6 ?l6 ?c6 ?k6 ?a7 ?l7 ?c7 ?k7 ?a8 ?l8 ?c8 ?k8 ?a9 ?l9 ?c9 ?k9 ?a10 ?l10 ?c10 ?k10 ?a11 ?l11 ?c11 ?k11 ?a12 ?l12 ?c12 ?k12 ?z0 ?z1 ?z2 ?z3 ?z4 ?z5 ?z6 ?z7 ?z8 ?z9 ?z10 ?z11 ?z12 ?z13 ?z14 ?z15 ?z16 ?z17 ?z18 ?z19 ?z20
    (case a0 => k_is); (case l0 => k_is); (case c0 => k_is); (case k0 => k_is); (case a1 => k_is); (case l1 => k_is)
    (case c1 => k_is); (case k1 => k_is); (case a2 => k_is); (case l2 => k_is); (case c2 => k_is); (case k2 => k_is)
    (case a3 => k_is); (case l3 => k_is); (case c3 => k_is); (case k3 => k_is); (case a4 => k_is); (case l4 => k_is)
    (case c4 => k_is); (case k4 => k_is); (case a5 => k_is); (case l5 => k_is); (case c5 => k_is); (case k5 => k_is)
    (case a6 => k_is); (case l6 => k_is); (case c6 => k_is); (case k6 => k_is); (case a7 => k_is); (case l7 => k_is)
    (case c7 => k_is); (case k7 => k_is); (case a8 => k_is); (case l8 => k_is); (case c8 => k_is); (case k8 => k_is)
    (case a9 => k_is); (case l9 => k_is); (case c9 => k_is); (case k9 => k_is); (case a10 => k_is); (case l10 => k_is)
    (case c10 => k_is); (case k10 => k_is); (case a11 => k_is); (case l11 => k_is); (case c11 => k_is); (case k11 => k_is)
    (case a12 => k_is); (case l12 => k_is); (case c12 => k_is); (case k12 => k_is); (case z0 => k_is); (case z1 => k_is)
    (case z2 => k_is); (case z3 => k_is); (case z4 => k_is); (case z5 => k_is); (case z6 => k_is); (case z7 => k_is)
    (case z8 => k_is); (case z9 => k_is); (case z10 => k_is); (case z11 => k_is); (case z12 => k_is); (case z13 => k_is)
    (case z14 => k_is); (case z15 => k_is); (case z16 => k_is); (case z17 => k_is); (case z18 => k_is); (case z19 => k_is)
    (case z20 => k_is)
